import PyProof.Rows.All
import PySem.Challenge.RW_maketrue_k12_words_and_halves
import HandS.TupMul
import HandS.ForMost
import HandS.Exc
import HandS.ExcOwn
import HandS.TryMany
import HandS.StrMore
import HandS.StrSplit
import HandS.TupAny
import HandS.IsInst
import HandS.Deep
import HandS.Zip
import HandS.Conv
import HandS.Style
import KE.IntTextLaws
import KE.KIntText
import PyProof.StrBlock2
import HandS.More
import PyProof.CollectStr
import PyProof.Rows.StrRev
import HandS.WordsDict
import HandS.SortInts
import HandS.Call
import HandS.Dict
import HandS.CallSlots
import HandS.TryOnly
import HandS.ExcInit
import HandS.Nested
import KE.KExcSuper
import KE.KSuper
import HandS.Steps
import HandS.WordsExc
import KE.GoesEnum
import HandS.ExcField
import HandS.ExcIs
import HandS.DictComp
import HandS.Strs
import PyProof.TupleCall
import HandS.RaiseMore
set_option linter.all false
set_option autoImplicit false
/-! MkVal: the core language, its values and its evaluator. Plain Lean. -/
namespace MK

/-- a value: a frozen list (lst) is one that nobody changes any more; ref is a place of the store -/
inductive PV where
  | non | bl (b : Bool) | int (i : Int) | str (s : List Nat) | tup (xs : List PV) | lst (xs : List PV) | ref (n : Nat) | ty (t : String)
deriving Inhabited, Repr

/-- what stands at a place of the store -/
inductive Cell where
  | lst (xs : List PV)
  | dic (ks vs : List PV)
  | ins (c : List Nat) (fs : List (List Nat × PV))
deriving Inhabited, Repr

abbrev Store := List Cell
abbrev Env := List (Option PV)

inductive Out (α : Type) where
  | ok (a : α) (S : Store)
  | exc (c : Nat) (as : List PV) (S : Store)
  | bad

def Out.bind {α β : Type} : Out α → (α → Store → Out β) → Out β
  | .ok a S, f => f a S
  | .exc c as S, _ => .exc c as S
  | .bad, _ => .bad
@[simp] theorem Out.bind_ok {α β : Type} (a : α) (S : Store) (f : α → Store → Out β) : (Out.ok a S).bind f = f a S := rfl
@[simp] theorem Out.bind_exc {α β : Type} (c : Nat) (as : List PV) (S : Store) (f : α → Store → Out β) : (Out.exc c as S : Out α).bind f = .exc c as S := rfl
@[simp] theorem Out.bind_bad {α β : Type} (f : α → Store → Out β) : (Out.bad : Out α).bind f = .bad := rfl

/-- an option as an outcome, the store as it is -/
def lift {α : Type} (S : Store) : Option α → Out α
  | some a => .ok a S
  | none => .bad
@[simp] theorem lift_some {α : Type} (S : Store) (a : α) : lift S (some a) = .ok a S := rfl
@[simp] theorem lift_none {α : Type} (S : Store) : lift S (none : Option α) = .bad := rfl

/-- the end of a statement -/
inductive SOut where
  | next (ρ : Env) (S : Store)
  | ret (v : PV) (S : Store)
  | brk (ρ : Env) (S : Store)
  | cont (ρ : Env) (S : Store)
  | exc (c : Nat) (as : List PV) (ρ : Env) (S : Store)
  | bad
def SOut.andThen : SOut → (Env → Store → SOut) → SOut
  | .next ρ S, f => f ρ S
  | .ret v S, _ => .ret v S
  | .brk ρ S, _ => .brk ρ S
  | .cont ρ S, _ => .cont ρ S
  | .exc c as ρ S, _ => .exc c as ρ S
  | .bad, _ => .bad
@[simp] theorem SOut.next_andThen (ρ : Env) (S : Store) (f : Env → Store → SOut) : (SOut.next ρ S).andThen f = f ρ S := rfl
@[simp] theorem SOut.ret_andThen (v : PV) (S : Store) (f : Env → Store → SOut) : (SOut.ret v S).andThen f = .ret v S := rfl
@[simp] theorem SOut.brk_andThen (ρ : Env) (S : Store) (f : Env → Store → SOut) : (SOut.brk ρ S).andThen f = .brk ρ S := rfl
@[simp] theorem SOut.cont_andThen (ρ : Env) (S : Store) (f : Env → Store → SOut) : (SOut.cont ρ S).andThen f = .cont ρ S := rfl
@[simp] theorem SOut.exc_andThen (c : Nat) (as : List PV) (ρ : Env) (S : Store) (f : Env → Store → SOut) : (SOut.exc c as ρ S).andThen f = .exc c as ρ S := rfl
@[simp] theorem SOut.bad_andThen (f : Env → Store → SOut) : SOut.bad.andThen f = .bad := rfl
def Out.toS {α : Type} (ρ : Env) : Out α → (α → Store → SOut) → SOut
  | .ok a S, f => f a S
  | .exc c as S, _ => .exc c as ρ S
  | .bad, _ => .bad
@[simp] theorem Out.toS_ok {α : Type} (ρ : Env) (a : α) (S : Store) (f : α → Store → SOut) : (Out.ok a S).toS ρ f = f a S := rfl
@[simp] theorem Out.toS_exc {α : Type} (ρ : Env) (c : Nat) (as : List PV) (S : Store) (f : α → Store → SOut) : (Out.exc c as S : Out α).toS ρ f = .exc c as ρ S := rfl
@[simp] theorem Out.toS_bad {α : Type} (ρ : Env) (f : α → Store → SOut) : (Out.bad : Out α).toS ρ f = .bad := rfl

/-- the largest length of a list or a text -/
def SZ : Nat := 16777216

/-! ### equality of values is decided -/
mutual
def PV.dec : (a b : PV) → Decidable (a = b)
  | .non, .non => isTrue rfl
  | .bl a, .bl b => if h : a = b then isTrue (by rw [h]) else isFalse fun e => h (by injection e)
  | .int a, .int b => if h : a = b then isTrue (by rw [h]) else isFalse fun e => h (by injection e)
  | .str a, .str b => if h : a = b then isTrue (by rw [h]) else isFalse fun e => h (by injection e)
  | .tup a, .tup b => match PV.decL a b with
    | isTrue h => isTrue (by rw [h])
    | isFalse h => isFalse fun e => h (by injection e)
  | .lst a, .lst b => match PV.decL a b with
    | isTrue h => isTrue (by rw [h])
    | isFalse h => isFalse fun e => h (by injection e)
  | .ref a, .ref b => if h : a = b then isTrue (by rw [h]) else isFalse fun e => h (by injection e)
  | .ty a, .ty b => if h : a = b then isTrue (by rw [h]) else isFalse fun e => h (by injection e)
  | .non, .bl _ | .non, .int _ | .non, .str _ | .non, .tup _ | .non, .lst _ | .non, .ref _ | .non, .ty _ => isFalse (by intro e; cases e)
  | .bl _, .non | .bl _, .int _ | .bl _, .str _ | .bl _, .tup _ | .bl _, .lst _ | .bl _, .ref _ | .bl _, .ty _ => isFalse (by intro e; cases e)
  | .int _, .non | .int _, .bl _ | .int _, .str _ | .int _, .tup _ | .int _, .lst _ | .int _, .ref _ | .int _, .ty _ => isFalse (by intro e; cases e)
  | .str _, .non | .str _, .bl _ | .str _, .int _ | .str _, .tup _ | .str _, .lst _ | .str _, .ref _ | .str _, .ty _ => isFalse (by intro e; cases e)
  | .tup _, .non | .tup _, .bl _ | .tup _, .int _ | .tup _, .str _ | .tup _, .lst _ | .tup _, .ref _ | .tup _, .ty _ => isFalse (by intro e; cases e)
  | .lst _, .non | .lst _, .bl _ | .lst _, .int _ | .lst _, .str _ | .lst _, .tup _ | .lst _, .ref _ | .lst _, .ty _ => isFalse (by intro e; cases e)
  | .ref _, .non | .ref _, .bl _ | .ref _, .int _ | .ref _, .str _ | .ref _, .tup _ | .ref _, .lst _ | .ref _, .ty _ => isFalse (by intro e; cases e)
  | .ty _, .non | .ty _, .bl _ | .ty _, .int _ | .ty _, .str _ | .ty _, .tup _ | .ty _, .lst _ | .ty _, .ref _ => isFalse (by intro e; cases e)
def PV.decL : (a b : List PV) → Decidable (a = b)
  | [], [] => isTrue rfl
  | x :: xs, y :: ys => match PV.dec x y, PV.decL xs ys with
    | isTrue h1, isTrue h2 => isTrue (by rw [h1, h2])
    | isFalse h, _ => isFalse fun e => h (by injection e)
    | _, isFalse h => isFalse fun e => h (by injection e)
  | [], _ :: _ => isFalse (by intro e; cases e)
  | _ :: _, [] => isFalse (by intro e; cases e)
end
instance : DecidableEq PV := PV.dec
instance : DecidableEq Cell := fun a b => match a, b with
  | .lst xs, .lst ys => if h : xs = ys then isTrue (by rw [h]) else isFalse fun e => h (by injection e)
  | .dic ks xs, .dic ls ys => if h : ks = ls ∧ xs = ys then isTrue (by rw [h.1, h.2]) else isFalse fun e => h (by injection e with e1 e2; exact ⟨e1, e2⟩)
  | .ins c fs, .ins d gs => if h : c = d ∧ fs = gs then isTrue (by rw [h.1, h.2]) else isFalse fun e => h (by injection e with e1 e2; exact ⟨e1, e2⟩)
  | .lst _, .dic _ _ | .lst _, .ins _ _ => isFalse (by intro e; cases e)
  | .dic _ _, .lst _ | .dic _ _, .ins _ _ => isFalse (by intro e; cases e)
  | .ins _ _, .lst _ | .ins _ _, .dic _ _ => isFalse (by intro e; cases e)

/-! ### operators on values -/
inductive BO where | add | sub | mul | fdiv | mod | pow
deriving DecidableEq, Repr, Inhabited
inductive CO where | eq | ne | lt | le | gt | ge | isN | notN | mem | nmem
deriving DecidableEq, Repr, Inhabited

mutual
/-- Python's == on values without places -/
def PV.eqv : PV → PV → Bool
  | .non, .non => true
  | .bl a, .bl b => a == b
  | .bl a, .int j => (if a then 1 else 0) == j
  | .int i, .bl b => i == (if b then 1 else 0)
  | .int i, .int j => i == j
  | .str x, .str y => x == y
  | .lst xs, .lst ys => PV.eqvAll xs ys
  | .tup xs, .tup ys => PV.eqvAll xs ys
  | _, _ => false
def PV.eqvAll : List PV → List PV → Bool
  | [], [] => true
  | x :: xs, y :: ys => PV.eqv x y && PV.eqvAll xs ys
  | _, _ => false
end
mutual
/-- no place, no type within; at most so deep -/
def PV.plain : Nat → PV → Bool
  | _, .non => true
  | _, .bl _ => true
  | _, .int _ => true
  | _, .str _ => true
  | n + 1, .tup xs => PV.plainAll n xs
  | n + 1, .lst xs => PV.plainAll n xs
  | _, _ => false
def PV.plainAll : Nat → List PV → Bool
  | _, [] => true
  | n, x :: xs => PV.plain n x && PV.plainAll n xs
end
/-- how deep data may be that is compared -/
def DEEP : Nat := 60

/-- the place i of n, from the end if below 0 -/
def ixAt {α : Type} (xs : List α) (i : Int) : Option α :=
  if 0 ≤ i then xs[i.toNat]? else if -(xs.length : Int) ≤ i then xs[(i + xs.length).toNat]? else none
/-- a slice's part, clipped -/
def clip (n d : Nat) : Option Int → Nat
  | none => d
  | some v => if v < 0 then (v + (n : Int)).toNat else min v.toNat n
def cut {α : Type} (xs : List α) (lo hi : Option Int) : List α := (xs.drop (clip xs.length 0 lo)).take (clip xs.length xs.length hi - clip xs.length 0 lo)

/-- the items of a list, frozen or in the store -/
def listOf (S : Store) : PV → Option (List PV)
  | .lst xs => some xs
  | .ref n => match S[n]? with
    | some (.lst xs) => some xs
    | _ => none
  | _ => none
/-- the items of a list or a tuple -/
def seqOf (S : Store) : PV → Option (List PV)
  | .tup xs => some xs
  | v => listOf S v

def strsOf : List PV → Option (List (List Nat))
  | [] => some []
  | .str s :: r => (strsOf r).map (s :: ·)
  | _ => none
def intsOf : List PV → Option (List Int)
  | [] => some []
  | .int s :: r => (intsOf r).map (s :: ·)
  | _ => none
def blsOf : List PV → Option (List Bool)
  | [] => some []
  | .bl s :: r => (blsOf r).map (s :: ·)
  | _ => none

/-- bounds under which * is known -/
def mulOk (i j : Int) : Bool := i.natAbs < 2 ^ 64 || j.natAbs < 2 ^ 64

def evBin (S : Store) : BO → PV → PV → Option PV
  | .add, .int i, .int j => some (.int (i + j))
  | .sub, .int i, .int j => some (.int (i - j))
  | .mul, .int i, .int j => if mulOk i j then some (.int (i * j)) else none
  | .fdiv, .int i, .int j => if 0 < j ∧ j < 1073741824 then some (.int (i / j)) else none
  | .mod, .int i, .int j => if 0 < j then some (.int (i % j)) else none
  | .pow, .int i, .int j => if 0 ≤ j ∧ j ≤ 1000000 ∧ i.natAbs < 2 ^ 64 then some (.int (i ^ j.toNat)) else none
  | .add, .str x, .str y => if x.length + y.length ≤ SZ then some (.str (x ++ y)) else none
  | .add, .tup x, .tup y => if x.length + y.length ≤ SZ then some (.tup (x ++ y)) else none
  | .add, .lst x, .lst y => if x.length + y.length ≤ SZ then some (.lst (x ++ y)) else none
  | .mul, .str x, .int n => if 1 ≤ n ∧ n ≤ 1000000 ∧ x.length * n.toNat ≤ SZ then some (.str (List.replicate n.toNat x).flatten) else none
  | .mul, .tup x, .int n => if 0 ≤ n ∧ n ≤ 1000 ∧ x.length ≤ 1000 then some (.tup (List.replicate n.toNat x).flatten) else none
  | .mul, .lst x, .int n => if 0 ≤ n ∧ n ≤ 1000 ∧ x.length ≤ 1000 then some (.lst (List.replicate n.toNat x).flatten) else none
  | _, _, _ => none

/-- x op= y -/
def evAug : BO → PV → PV → Option PV
  | .add, .int i, .int j => some (.int (i + j))
  | .sub, .int i, .int j => some (.int (i - j))
  | .mul, .int i, .int j => if mulOk i j then some (.int (i * j)) else none
  | .fdiv, .int i, .int j => if 0 < j ∧ j < 1073741824 then some (.int (i / j)) else none
  | .mod, .int i, .int j => if 0 < j then some (.int (i % j)) else none
  | .add, .str x, .str y => if x.length + y.length ≤ SZ then some (.str (x ++ y)) else none
  | _, _, _ => none

/-- x in xs, for data -/
def memV (x : PV) (xs : List PV) : Bool := xs.any fun y => PV.eqv y x
/-- one sign in a text -/
def evIn (S : Store) : PV → PV → Option Bool
  | .str [c], .str y => some (decide (c ∈ y))
  | x, y => match x.plain DEEP, seqOf S y with
    | true, some ys => if PV.plainAll DEEP ys then some (memV x ys) else none
    | _, _ => none

def evCmp (S : Store) : CO → PV → PV → Option Bool
  | .eq, a, b => if a.plain DEEP && b.plain DEEP then some (PV.eqv a b) else none
  | .ne, a, b => if a.plain DEEP && b.plain DEEP then some (!PV.eqv a b) else none
  | .lt, .int i, .int j => some (decide (i < j))
  | .le, .int i, .int j => some (decide (i ≤ j))
  | .gt, .int i, .int j => some (decide (j < i))
  | .ge, .int i, .int j => some (decide (j ≤ i))
  | .isN, a, .non => some (match a with | .non => true | _ => false)
  | .notN, a, .non => some (match a with | .non => false | _ => true)
  | .mem, a, b => evIn S a b
  | .nmem, a, b => (evIn S a b).map (!·)
  | _, _, _ => none

/-- a[i] -/
def evIx (S : Store) : PV → PV → Option PV
  | .str s, .int i => (ixAt s i).map fun c => .str [c]
  | .tup xs, .int i => ixAt xs i
  | v, .int i => match listOf S v with
    | some xs => ixAt xs i
    | none => none
  | _, _ => none
def evSl (S : Store) : PV → Option Int → Option Int → Option PV
  | .str s, lo, hi => some (.str (cut s lo hi))
  | .tup xs, lo, hi => some (.tup (cut xs lo hi))
  | v, lo, hi => (listOf S v).map fun xs => .lst (cut xs lo hi)

/-! ### built-ins -/
inductive BI where | len | int | str | abs | min2 | max2 | all | any | tuple | list | sorted | sum
deriving DecidableEq, Repr, Inhabited
inductive BM where | index | find | find3 | rjust | split2 | join
deriving DecidableEq, Repr, Inhabited

/-- a number's figures -/
def figs (i : Int) : List Nat := (toString i).toList.map Char.toNat
/-- the place of the first sign -/
def findC (c : Nat) : List Nat → Nat → Option Nat
  | [], _ => none
  | x :: r, k => if x = c then some k else findC c r (k + 1)
/-- the number that figures are -/
def numOf : List Nat → Nat → Option Nat
  | [], n => some n
  | c :: r, n => if 48 ≤ c ∧ c ≤ 57 then numOf r (10 * n + (c - 48)) else none
def joinL (sep : List Nat) : List (List Nat) → List Nat
  | [] => []
  | [x] => x
  | x :: y :: r => x ++ sep ++ joinL sep (y :: r)

/-- put in its place, behind what is not above it -/
def insC (x : Nat) : List Nat → List Nat
  | [] => [x]
  | y :: r => if x ≤ y then x :: y :: r else y :: insC x r
def srtC : List Nat → List Nat
  | [] => []
  | x :: r => insC x (srtC r)
def insI (x : Int) : List Int → List Int
  | [] => [x]
  | y :: r => if x ≤ y then x :: y :: r else y :: insI x r
def srtI : List Int → List Int
  | [] => []
  | x :: r => insI x (srtI r)
/-- the keys of a dict in the store -/
def dicOf (S : Store) : PV → Option (List PV × List PV)
  | .ref n => match S[n]? with
    | some (.dic ks vs) => some (ks, vs)
    | _ => none
  | _ => none
def evBI (S : Store) : BI → List PV → Option PV
  | .len, [.str s] => some (.int s.length)
  | .len, [v] => match dicOf S v with
    | some (ks, _) => some (.int ks.length)
    | none => (seqOf S v).map fun xs => .int xs.length
  | .sorted, [.str s] => if s.length < 64 then some (.lst ((srtC s).map fun c => .str [c])) else none
  | .sorted, [v] => match dicOf S v with
    | some (ks, _) => (intsOf ks).bind fun ns => if ns.length < 64 then some (.lst ((srtI ns).map .int)) else none
    | none => (listOf S v).bind fun xs => (intsOf xs).bind fun ns => some (.lst ((srtI ns).map .int))
  | .sum, [v] => (listOf S v).bind fun xs => (intsOf xs).map fun ns => .int ns.sum
  | .int, [.int i] => some (.int i)
  | .int, [.bl b] => some (.int (if b then 1 else 0))
  | .int, [.str s] => if 0 < s.length ∧ s.length ≤ 640 then (numOf s 0).map fun (n : Nat) => PV.int (n : Int) else none
  | .str, [.int i] => if i.natAbs < 2 ^ 1000 then some (.str (figs i)) else none
  | .abs, [.int i] => some (.int (if i < 0 then -i else i))
  | .min2, [.int i, .int j] => some (.int (if j < i then j else i))
  | .max2, [.int i, .int j] => some (.int (if i < j then j else i))
  | .all, [v] => match listOf S v with
    | some xs => (blsOf xs).map fun bs => .bl (bs.all id)
    | none => none
  | .any, [v] => match listOf S v with
    | some xs => (blsOf xs).map fun bs => .bl (bs.any id)
    | none => none
  | .tuple, [v] => (seqOf S v).map fun xs => .tup xs
  | .list, [v] => (seqOf S v).map fun xs => .lst xs
  | _, _ => none

def evBM (S : Store) : BM → PV → List PV → Option PV
  | .index, .str s, [.str [c]] => (findC c s 0).map fun (k : Nat) => PV.int (k : Int)
  | .find, .str s, [.str [c]] => some (.int (match findC c s 0 with | some k => (k : Int) | none => -1))
  | .find3, .str s, [.str [c], .int i] => if 0 ≤ i then some (.int (match findC c (s.drop i.toNat) i.toNat with | some k => (k : Int) | none => -1)) else none
  | .rjust, .str s, [.int n, .str [c]] => if 0 ≤ n ∧ n ≤ 1000 ∧ s.length ≤ 1000000 then some (.str (List.replicate (n.toNat - s.length) c ++ s)) else none
  | .split2, .str s, [.str [c], .int 1] => if s.length + 2 ≤ SZ then some (.lst (match findC c s 0 with | some k => [.str (s.take k), .str (s.drop (k + 1))] | none => [.str s])) else none
  | .join, .str s, [v] => match listOf S v with
    | some xs => match strsOf xs with
      | some ss => if (ss.map List.length).sum + ss.length * s.length ≤ SZ then some (.str (joinL s ss)) else none
      | none => none
    | none => none
  | _, _, _ => none

/-- which built-in types isinstance knows -/
inductive TyN where | int | bool | str | tuple | list
deriving DecidableEq, Repr, Inhabited
def isTy (S : Store) : TyN → PV → Option Bool
  | .int, .int _ => some true
  | .int, .bl _ => some true
  | .bool, .bl _ => some true
  | .str, .str _ => some true
  | .tuple, .tup _ => some true
  | .list, .lst _ => some true
  | t, .ref n => match S[n]? with
    | some (.lst _) => some (t == .list)
    | _ => none
  | _, .ty _ => none
  | _, _ => some false

/-! ### the core language -/
inductive TG where
  | nm (i : Nat)
  | tp (ts : List TG)
deriving Inhabited, Repr

mutual
def asg : TG → PV → Env → Option Env
  | .nm i, v, ρ => if i < ρ.length then some (ρ.set i (some v)) else none
  | .tp ts, .tup vs, ρ => asgs ts vs ρ
  | .tp ts, .lst vs, ρ => asgs ts vs ρ
  | _, _, _ => none
def asgs : List TG → List PV → Env → Option Env
  | [], [], ρ => some ρ
  | t :: ts, v :: vs, ρ => (asg t v ρ).bind fun ρ' => asgs ts vs ρ'
  | _, _, _ => none
end

mutual
inductive C where
  | var (i : Nat)
  | lit (v : PV)
  | gl (v : PV)
  | tup (es : List C)
  | lst (own : Bool) (es : List C)
  | bin (o : BO) (a b : C)
  | neg (a : C)
  | cmp (o : CO) (a b : C)
  | cmp2 (o p : CO) (a b c : C)
  | and (es : List C)
  | or (es : List C)
  | not (a : C)
  | ite (t a b : C)
  | ix (a b : C)
  | sl (l h : Bool) (a lo hi : C)
  | call (f : Nat) (es : List C)
  | bi (b : BI) (es : List C)
  | bm (m : BM) (o : C) (es : List C)
  | isi (a : C) (t : TyN)
  | lc (own : Bool) (vs : List Nat) (tg : TG) (it : It) (cond : List C) (elt : C)
  | app (o a : C)
  | pop (o : C)
  | rev (a : C)
  | fld (c : List Nat) (a : C) (f : List Nat)
  | meth (c : List Nat) (f : Nat) (m : List Nat) (a : C) (es : List C)
  | make (c : List Nat) (f : Nat) (es : List C)
  | dlit (es : List C)
  | dix (a b : C)
  | dget (a b : C)
  | dget2 (a b d : C)
  | din (neg : Bool) (b a : C)
  | gdx (d : List (List Nat × Int)) (b : C)
  | gdin (neg : Bool) (d : List (List Nat × Int)) (b : C)
  /-- list(a), owned -/
  | lof (a : C)
  /-- list(range(..)) -/
  | lrng (es : List C)
  /-- len({x: True for x in a}); len(set(a)) -/
  | dcnt (i : Nat) (a : C)
  | scnt (a : C)
/-- what is walked -/
inductive It where
  | seq (a : C)
  | rng (es : List C)
  | enum (a : C)
end

/-- what an except suite gives back: a value, a field of the exception, a choice by a field -/
inductive HX where
  | lit (v : PV)
  | fld (j : Nat)
  | ite (j : Nat) (v : PV) (a b : HX)
  | isx (j : Nat) (ks : List Nat) (a b : HX)
deriving Inhabited, Repr
inductive HK where
  | ret (x : HX)
  | pass | cont
deriving Inhabited, Repr
/-- an except clause: the classes that it takes, the slot of its name, its suite -/
structure Hd where
  cls : List Nat
  nm : Option Nat
  k : HK
deriving Inhabited, Repr
/-- a target of several: a name, an attribute of what a name stands for -/
inductive AT where
  | nm (i : Nat)
  | at_ (c : List Nat) (i : Nat) (f : List Nat)
deriving Inhabited, Repr
inductive S where
  | asg (t : TG) (e : C)
  | aug (i : Nat) (o : BO) (e : C)
  | ex (e : C)
  | ret (e : C)
  | retN
  | ifs (c : C) (a b : List S)
  | for_ (t : TG) (it : It) (b : List S)
  | while_ (c : C) (b : List S)
  | brk | cont | pass
  | raise (c : Nat) (es : List C)
  | try_ (b : List S) (hs : List Hd)
  | sfld (c : List Nat) (a : C) (f : List Nat) (e : C)
  | afld (c : List Nat) (a : C) (f : List Nat) (op : BO) (e : C)
  | dput (d k e : C)
  | sls (a lo e : C)
  | asgA (ts : List AT) (e : C)
  | dead

mutual
/-- all places within are below n -/
def PV.under (n : Nat) : PV → Bool
  | .tup xs => PV.underAll n xs
  | .lst xs => PV.underAll n xs
  | .ref k => decide (k < n)
  | _ => true
def PV.underAll (n : Nat) : List PV → Bool
  | [] => true
  | x :: xs => PV.under n x && PV.underAll n xs
end

/-! ### the evaluator -/
/-- what is called, and how often a while may turn -/
structure Orc where
  call : Nat → List PV → Store → Out PV
  fuel : Nat

/-- the places of a comprehension's own names forgotten -/
def wipe (ρ : Env) : List Nat → Env
  | [] => ρ
  | v :: vs => (wipe ρ vs).set v none

def forL (step : PV → Env → Store → SOut) : List PV → Env → Store → SOut
  | [], ρ, S => .next ρ S
  | x :: xs, ρ, S => match step x ρ S with
    | .next ρ' S' => forL step xs ρ' S'
    | .cont ρ' S' => forL step xs ρ' S'
    | .brk ρ' S' => .next ρ' S'
    | .ret v S' => .ret v S'
    | .exc c as ρ' S' => .exc c as ρ' S'
    | .bad => .bad
/-- the list that is walked, where it stands in the store: it must stay as it is -/
def forW (kept : Store → Bool) (step : PV → Env → Store → SOut) (x : PV) (ρ : Env) (S : Store) : SOut := match step x ρ S with
  | .next ρ' S' => if kept S' then .next ρ' S' else .bad
  | .cont ρ' S' => if kept S' then .cont ρ' S' else .bad
  | r => r
def whileL (test : Env → Store → Out PV) (body : Env → Store → SOut) : Nat → Env → Store → SOut
  | 0, _, _ => .bad
  | n + 1, ρ, S => (test ρ S).toS ρ fun v S1 => match v with
    | .bl true => (match body ρ S1 with
      | .next ρ' S' => whileL test body n ρ' S'
      | .cont ρ' S' => whileL test body n ρ' S'
      | .brk ρ' S' => .next ρ' S'
      | .ret v S' => .ret v S'
      | .exc c as ρ' S' => .exc c as ρ' S'
      | .bad => .bad)
    | .bl false => .next ρ S1
    | _ => .bad
/-- a comprehension's turns: acc is what has been made so far -/
def compL (step : PV → Store → Out (Option PV)) : List PV → List PV → Store → Out (List PV)
  | acc, [], S => .ok acc S
  | acc, x :: xs, S => match step x S with
    | .ok (some y) S' => compL step (acc ++ [y]) xs S'
    | .ok none S' => compL step acc xs S'
    | _ => .bad

/-- a slice's part: an int -/
def partI : PV → Store → Out (Option Int)
  | .int i, S => .ok (some i) S
  | _, _ => .bad

/-- the items that are walked, and where they stand in the store -/
abbrev Walk := List PV × Option Nat
def walkOf (S : Store) : PV → Option Walk
  | .str s => some (s.map fun c => .str [c], none)
  | .tup xs => some (xs, none)
  | .lst xs => some (xs, none)
  | .ref n => match S[n]? with
    | some (.lst xs) => some (xs, some n)
    | _ => none
  | _ => none
def enumFrom : Nat → List PV → List PV
  | _, [] => []
  | n, x :: xs => .tup [.int n, x] :: enumFrom (n + 1) xs
def enumW (w : Walk) : Option Walk := match w.2 with
  | none => some (enumFrom 0 w.1, none)
  | some _ => none
def rngL (lo : Int) (n : Nat) : List PV := (List.range n).map fun (k : Nat) => PV.int (lo + (k : Int))
def BIG : Int := 1073741824
def rngOf : List PV → Option Walk
  | [.int j] => if -BIG ≤ j ∧ j < BIG then some (rngL 0 j.toNat, none) else none
  | [.int i, .int j] => if -BIG ≤ i ∧ i < BIG ∧ -BIG ≤ j ∧ j < BIG then some (rngL i (j - i).toNat, none) else none
  | _ => none
def keptOf (w : Walk) (S : Store) : Bool := match w.2 with
  | none => true
  | some n => decide (S[n]? = some (.lst w.1))

/-- one turn of a comprehension -/
def compStep (w : Walk) (as : PV → Env → Option Env) (cond : Env → Store → Out Bool) (elt : Env → Store → Out PV) (ρ : Env) (x : PV) (S : Store) : Out (Option PV) := match as x ρ with
  | none => .bad
  | some ρ' => (cond ρ' S).bind fun b S3 => if b then (elt ρ' S3).bind fun y S4 => if keptOf w S4 then .ok (some y) S4 else .bad
        else if keptOf w S3 then .ok none S3 else .bad
/-- the receiver is a text -/
def isStrV : PV → Bool
  | .str _ => true
  | _ => false
def isListRef (S : Store) : PV → Bool
  | .ref n => match S[n]? with
    | some (.lst _) => true
    | _ => false
  | _ => false
def appendTo (S : Store) (x y : PV) : Out PV := match x with
  | .ref n => (match S[n]? with
    | some (.lst xs) => if xs.length < SZ then .ok .non (S.set n (.lst (xs ++ [y]))) else .bad
    | _ => .bad)
  | _ => .bad
/-! instances and dicts -/
def lookF (f : List Nat) : List (List Nat × PV) → Option PV
  | [] => none
  | (g, v) :: r => if g = f then some v else lookF f r
def putN (f : List Nat) (v : PV) : List (List Nat × PV) → List (List Nat × PV)
  | [] => [(f, v)]
  | (g, u) :: r => if g = f then (g, v) :: r else (g, u) :: putN f v r
def insOf (S : Store) : PV → Option (List Nat × List (List Nat × PV))
  | .ref n => match S[n]? with
    | some (.ins c fs) => some (c, fs)
    | _ => none
  | _ => none
def fldOf (S : Store) (c : List Nat) (x : PV) (f : List Nat) : Option PV := match insOf S x with
  | some (c', fs) => if c' = c then lookF f fs else none
  | none => none
def isIns (S : Store) (x : PV) (c m : List Nat) : Bool := match insOf S x with
  | some (c', fs) => decide (c' = c) && (lookF m fs).isNone
  | none => false
/-- x.f = v -/
def setF (S : Store) (c : List Nat) (x : PV) (f : List Nat) (v : PV) : Option Store := match x with
  | .ref n => match S[n]? with
    | some (.ins c' fs) => if c' = c ∧ fs.length < 900 then some (S.set n (.ins c (putN f v fs))) else none
    | _ => none
  | _ => none
def isKey : PV → Bool
  | .int _ => true
  | .str _ => true
  | _ => false
def lookD (k : PV) : List PV → List PV → Option PV
  | j :: ks, v :: vs => if j = k then some v else lookD k ks vs
  | _, _ => none
/-- d[k] = v: the keys, the values -/
def setD (k v : PV) : List PV → List PV → List PV
  | j :: ks, u :: us => (if j = k then v else u) :: setD k v ks us
  | _, _ => []
def putD (k v : PV) (ks us : List PV) : List PV × List PV := if (ks.any fun j => decide (j = k)) = true then (ks, setD k v ks us) else (ks ++ [k], us ++ [v])
/-- d at k -/
def dicGet (S : Store) (x k : PV) : Option (Option PV) := match dicOf S x with
  | some (ks, vs) => if isKey k then some (lookD k ks vs) else none
  | none => none
def dicPut (S : Store) (x k v : PV) : Option Store := match x with
  | .ref n => match S[n]? with
    | some (.dic ks vs) => if isKey k ∧ ks.length < SZ then (let r := putD k v ks vs; some (S.set n (.dic r.1 r.2))) else none
    | _ => none
  | _ => none
/-- pairs, one behind another, put into an empty dict -/
def mergeD : List PV → List PV × List PV → Option (List PV × List PV)
  | [], acc => some acc
  | [_], _ => none
  | k :: v :: r, acc => if isKey k then mergeD r (putD k v acc.1 acc.2) else none
def lookT (k : List Nat) : List (List Nat × Int) → Option Int
  | [] => none
  | (j, v) :: r => if j = k then some v else lookT k r
def popOf (S : Store) : PV → Out PV
  | .ref n => match S[n]? with
    | some (.lst xs) => match xs.getLast? with
      | some v => .ok v (S.set n (.lst xs.dropLast))
      | none => .bad
    | _ => .bad
  | _ => .bad
def isDic (S : Store) (x : PV) : Bool := (dicOf S x).isSome
/-- the ints a .. b - 1, as a list -/
def rgL (a b : Int) : PV := .lst ((List.range (b - a).toNat).map fun i => .int (a + (i : Nat)))
def rgLst : List PV → Option PV
  | [.int b] => if -BIG ≤ b ∧ b ≤ 16777216 then some (rgL 0 b) else none
  | [.int a, .int b] => if -BIG ≤ a ∧ a < BIG ∧ -BIG ≤ b ∧ b < BIG ∧ b - a ≤ 16777216 then some (rgL a b) else none
  | _ => none
/-- how many keys there are among them -/
def keysOf : List PV → List PV → List PV
  | [], acc => acc
  | x :: r, acc => keysOf r (if (acc.any fun j => decide (j = x)) = true then acc else acc ++ [x])
def dcntV : PV → Option PV
  | .tup xs => if xs.all isKey = true ∧ xs.length ≤ 1000000 then some (.int (keysOf xs []).length) else none
  | _ => none
def scntV (xs : List PV) : Option PV := if xs.all isKey = true ∧ xs.length ≤ 4000 then some (.int (keysOf xs []).length) else none
mutual
def evE (o : Orc) : C → Env → Store → Out PV
  | .var i, ρ, S => match ρ[i]? with
    | some (some v) => .ok v S
    | _ => .bad
  | .lit v, _, S => .ok v S
  | .gl v, _, S => .ok v S
  | .tup es, ρ, S => (evEs o es ρ S).bind fun vs S' => if vs.length ≤ SZ then .ok (.tup vs) S' else .bad
  | .lst own es, ρ, S => (evEs o es ρ S).bind fun vs S' => if vs.length ≤ SZ then (if own then .ok (.ref S'.length) (S' ++ [.lst vs]) else .ok (.lst vs) S') else .bad
  | .bin op a b, ρ, S => (evE o a ρ S).bind fun x S1 => (evE o b ρ S1).bind fun y S2 => lift S2 (evBin S2 op x y)
  | .neg a, ρ, S => (evE o a ρ S).bind fun x S1 => match x with
    | .int i => .ok (.int (-i)) S1
    | _ => .bad
  | .cmp op a b, ρ, S => (evE o a ρ S).bind fun x S1 => (evE o b ρ S1).bind fun y S2 => lift S2 ((evCmp S2 op x y).map PV.bl)
  | .cmp2 p q a b c, ρ, S => (evE o a ρ S).bind fun x S1 => (evE o b ρ S1).bind fun y S2 => match evCmp S2 p x y with
    | some true => (evE o c ρ S2).bind fun z S3 => lift S3 ((evCmp S3 q y z).map PV.bl)
    | some false => .ok (.bl false) S2
    | none => .bad
  | .and es, ρ, S => evAnd o es ρ S
  | .or es, ρ, S => evOr o es ρ S
  | .not a, ρ, S => (evE o a ρ S).bind fun x S1 => match x with
    | .bl b => .ok (.bl (!b)) S1
    | _ => .bad
  | .ite t a b, ρ, S => (evE o t ρ S).bind fun x S1 => match x with
    | .bl true => evE o a ρ S1
    | .bl false => evE o b ρ S1
    | _ => .bad
  | .ix a b, ρ, S => (evE o a ρ S).bind fun x S1 => (evE o b ρ S1).bind fun y S2 => lift S2 (evIx S2 x y)
  | .sl l h a lo hi, ρ, S => (evE o a ρ S).bind fun x S1 => (if l then (evE o lo ρ S1).bind partI else .ok none S1).bind fun lo' S2 => (if h then (evE o hi ρ S2).bind partI else .ok none S2).bind fun hi' S3 =>
    lift S3 (evSl S3 x lo' hi')
  | .call f es, ρ, S => (evEs o es ρ S).bind fun vs S' => o.call f vs S'
  | .bi b es, ρ, S => (evEs o es ρ S).bind fun vs S' => lift S' (evBI S' b vs)
  | .bm m r es, ρ, S => (evE o r ρ S).bind fun x S1 => if isStrV x then (evEs o es ρ S1).bind fun vs S2 => lift S2 (evBM S2 m x vs) else .bad
  | .isi a t, ρ, S => (evE o a ρ S).bind fun x S1 => lift S1 ((isTy S1 t x).map PV.bl)
  | .lc own vs tg it cond elt, ρ, S => (evIt o it ρ S).bind fun w S1 =>
    (compL (compStep w (asg tg) (evCond o cond) (evE o elt) (wipe ρ vs)) [] w.1 S1).bind fun ys S' =>
      if w.1.length ≤ SZ then (if own then .ok (.ref S'.length) (S' ++ [.lst ys]) else .ok (.lst ys) S') else .bad
  | .app r a, ρ, S => (evE o r ρ S).bind fun x S1 => if isListRef S1 x then (evE o a ρ S1).bind fun y S2 => appendTo S2 x y else .bad
  | .pop r, ρ, S => (evE o r ρ S).bind fun x S1 => popOf S1 x
  | .rev a, ρ, S => (evE o a ρ S).bind fun x S1 => match x with
    | .str s => .ok (.str s.reverse) S1
    | _ => .bad
  | .fld c a f, ρ, S => (evE o a ρ S).bind fun x S1 => lift S1 (fldOf S1 c x f)
  | .meth c f m a es, ρ, S => (evE o a ρ S).bind fun x S1 => if isIns S1 x c m then (evEs o es ρ S1).bind fun vs S2 => o.call f (x :: vs) S2 else .bad
  | .make c f es, ρ, S => (evEs o es ρ S).bind fun vs S1 => (o.call f (.ref S1.length :: vs) (S1 ++ [.ins c []])).bind fun v S2 => match v with
    | .non => .ok (.ref S1.length) S2
    | _ => .bad
  | .dlit es, ρ, S => (evEs o es ρ (S ++ [.dic [] []])).bind fun us S1 => if S1[S.length]? = some (.dic [] []) then (match mergeD us ([], []) with
    | some (ks, vs) => if us.length ≤ 30 then .ok (.ref S.length) (S1.set S.length (.dic ks vs)) else .bad
    | none => .bad) else .bad
  | .dix a b, ρ, S => (evE o a ρ S).bind fun x S1 => (evE o b ρ S1).bind fun y S2 => match dicGet S2 x y with
    | some (some v) => .ok v S2
    | _ => .bad
  | .dget a b, ρ, S => (evE o a ρ S).bind fun x S1 => if isDic S1 x then (evE o b ρ S1).bind fun y S2 => match dicGet S2 x y with
    | some r => .ok (r.getD .non) S2
    | none => .bad else .bad
  | .dget2 a b d, ρ, S => (evE o a ρ S).bind fun x S1 => if isDic S1 x then (evE o b ρ S1).bind fun y S2 => (evE o d ρ S2).bind fun z S3 => match dicGet S3 x y with
    | some r => .ok (r.getD z) S3
    | none => .bad else .bad
  | .din neg b a, ρ, S => (evE o b ρ S).bind fun y S1 => (evE o a ρ S1).bind fun x S2 => match dicGet S2 x y with
    | some r => .ok (.bl (if neg then !r.isSome else r.isSome)) S2
    | none => .bad
  | .gdx d b, ρ, S => (evE o b ρ S).bind fun y S1 => match y with
    | .str k => lift S1 ((lookT k d).map fun (i : Int) => PV.int i)
    | _ => .bad
  | .gdin neg d b, ρ, S => (evE o b ρ S).bind fun y S1 => match y with
    | .str k => .ok (.bl (if neg then !(lookT k d).isSome else (lookT k d).isSome)) S1
    | _ => .bad
  | .lof a, ρ, S => (evE o a ρ S).bind fun x S1 => match seqOf S1 x with
    | some xs => .ok (.ref S1.length) (S1 ++ [.lst xs])
    | none => .bad
  | .lrng es, ρ, S => (evEs o es ρ S).bind fun vs S1 => lift S1 (rgLst vs)
  | .dcnt i a, ρ, S => (evE o a ρ S).bind fun x S1 => if i < ρ.length then lift S1 (dcntV x) else .bad
  | .scnt a, ρ, S => (evE o a ρ S).bind fun x S1 => lift S1 ((seqOf S1 x).bind scntV)
def evEs (o : Orc) : List C → Env → Store → Out (List PV)
  | [], _, S => .ok [] S
  | c :: cs, ρ, S => (evE o c ρ S).bind fun v S1 => (evEs o cs ρ S1).bind fun vs S2 => .ok (v :: vs) S2
def evAnd (o : Orc) : List C → Env → Store → Out PV
  | [], _, _ => .bad
  | [c], ρ, S => evE o c ρ S
  | c :: d :: cs, ρ, S => (evE o c ρ S).bind fun v S1 => match v with
    | .bl true => evAnd o (d :: cs) ρ S1
    | .bl false => .ok (.bl false) S1
    | _ => .bad
def evOr (o : Orc) : List C → Env → Store → Out PV
  | [], _, _ => .bad
  | [c], ρ, S => evE o c ρ S
  | c :: d :: cs, ρ, S => (evE o c ρ S).bind fun v S1 => match v with
    | .bl false => evOr o (d :: cs) ρ S1
    | .bl true => .ok (.bl true) S1
    | _ => .bad
def evCond (o : Orc) : List C → Env → Store → Out Bool
  | [], _, S => .ok true S
  | c :: _, ρ, S => (evE o c ρ S).bind fun v S1 => match v with
    | .bl b => .ok b S1
    | _ => .bad
def evIt (o : Orc) : It → Env → Store → Out Walk
  | .seq a, ρ, S => (evE o a ρ S).bind fun v S1 => lift S1 (walkOf S1 v)
  | .rng es, ρ, S => (evEs o es ρ S).bind fun vs S1 => lift S1 (rngOf vs)
  | .enum a, ρ, S => (evE o a ρ S).bind fun v S1 => lift S1 ((walkOf S1 v).bind enumW)
end

/-- what an exception may bear -/
def xOk : PV → Bool
  | .int i => decide (i.natAbs < 2 ^ 64)
  | .str s => decide (s.length ≤ 1000000)
  | _ => false
def evHX (c : Nat) (as : List PV) : HX → Option PV
  | .lit v => some v
  | .fld j => as[j]?
  | .ite j v a b => match as[j]? with
    | some x => if PV.eqv x v then evHX c as a else evHX c as b
    | none => none
  | .isx _ ks a b => match as with
    | [] => if ks.contains c then evHX c as a else evHX c as b
    | _ :: _ => none
def slotB (ρ : Env) : Option Nat → Bool
  | none => true
  | some i => decide (i < ρ.length)
def evHK (c : Nat) (as : List PV) (h : Hd) (ρ : Env) (S : Store) : SOut := match h.k, h.nm with
  | .ret x, nm => if slotB ρ nm then (match evHX c as x with
    | some v => .ret v S
    | none => .bad) else .bad
  | .pass, none => .next ρ S
  | .cont, none => .cont ρ S
  | _, _ => .bad
def runH : List Hd → Nat → List PV → Env → Store → SOut
  | [], c, as, ρ, S => .exc c as ρ S
  | h :: hs, c, as, ρ, S => if h.cls.contains c then evHK c as h ρ S else runH hs c as ρ S
/-- several targets, one after another -/
def asgAs : List AT → List PV → Env → Store → Option (Env × Store)
  | [], [], ρ, S => some (ρ, S)
  | .nm i :: ts, v :: vs, ρ, S => if i < ρ.length then asgAs ts vs (ρ.set i (some v)) S else none
  | .at_ c i f :: ts, v :: vs, ρ, S => match ρ[i]? with
    | some (some x) => (setF S c x f v).bind fun S' => asgAs ts vs ρ S'
    | _ => none
  | _, _, _, _ => none
/-- xs[lo:] = ys -/
def setSl (S : Store) (x : PV) (lo : Int) (ys : PV) : Option Store := match x, ys with
  | .ref n, .lst zs => match S[n]? with
    | some (.lst xs) => if 0 ≤ lo ∧ lo ≤ xs.length ∧ xs.length + zs.length ≤ SZ then some (S.set n (.lst (xs.take lo.toNat ++ zs))) else none
    | _ => none
  | _, _ => none
def tupOf : PV → Option (List PV)
  | .tup vs => some vs
  | _ => none
mutual
def evS (o : Orc) : S → Env → Store → SOut
  | .asg t e, ρ, S => (evE o e ρ S).toS ρ fun v S1 => match asg t v ρ with
    | some ρ' => .next ρ' S1
    | none => .bad
  | .aug i op e, ρ, S => match ρ[i]? with
    | some (some x) => (evE o e ρ S).toS ρ fun y S1 => match evAug op x y with
      | some z => .next (ρ.set i (some z)) S1
      | none => .bad
    | _ => .bad
  | .ex e, ρ, S => (evE o e ρ S).toS ρ fun _ S1 => .next ρ S1
  | .ret e, ρ, S => (evE o e ρ S).toS ρ fun v S1 => .ret v S1
  | .retN, _, S => .ret .non S
  | .ifs c a b, ρ, S => (evE o c ρ S).toS ρ fun v S1 => match v with
    | .bl true => evSs o a ρ S1
    | .bl false => evSs o b ρ S1
    | _ => .bad
  | .for_ t it b, ρ, S => (evIt o it ρ S).toS ρ fun w S1 =>
    forL (forW (keptOf w) fun x ρ S => match asg t x ρ with
      | some ρ' => evSs o b ρ' S
      | none => .bad) w.1 ρ S1
  | .while_ c b, ρ, S => whileL (evE o c) (evSs o b) o.fuel ρ S
  | .brk, ρ, S => .brk ρ S
  | .cont, ρ, S => .cont ρ S
  | .pass, ρ, S => .next ρ S
  | .raise c es, ρ, S => (evEs o es ρ S).toS ρ fun vs S1 => if vs.all xOk then .exc c vs ρ S1 else .bad
  | .try_ b hs, ρ, S => match evSs o b ρ S with
    | .exc c as ρ' S' => runH hs c as ρ' S'
    | r => r
  | .sfld c a f e, ρ, S => (evE o e ρ S).toS ρ fun v S1 => (evE o a ρ S1).toS ρ fun x S2 => match setF S2 c x f v with
    | some S3 => .next ρ S3
    | none => .bad
  | .afld c a f op e, ρ, S => (evE o a ρ S).toS ρ fun x S1 => match fldOf S1 c x f with
    | some u => (evE o e ρ S1).toS ρ fun y S2 => match evAug op u y with
      | some z => match setF S2 c x f z with
        | some S3 => .next ρ S3
        | none => .bad
      | none => .bad
    | none => .bad
  | .dput d k e, ρ, S => (evE o e ρ S).toS ρ fun v S1 => (evE o d ρ S1).toS ρ fun x S2 => (evE o k ρ S2).toS ρ fun y S3 => match dicPut S3 x y v with
    | some S4 => .next ρ S4
    | none => .bad
  | .sls a lo e, ρ, S => (evE o e ρ S).toS ρ fun v S1 => (evE o a ρ S1).toS ρ fun x S2 => ((evE o lo ρ S2).bind partI).toS ρ fun l S3 => match l with
    | some l => (match setSl S3 x l v with
      | some S4 => .next ρ S4
      | none => .bad)
    | none => .bad
  | .asgA ts e, ρ, S => (evE o e ρ S).toS ρ fun v S1 => match tupOf v with
    | some vs => (match asgAs ts vs ρ S1 with
      | some (ρ', S2) => .next ρ' S2
      | none => .bad)
    | none => .bad
  | .dead, _, _ => .bad
def evSs (o : Orc) : List S → Env → Store → SOut
  | [], ρ, S => .next ρ S
  | s :: ss, ρ, S => (evS o s ρ S).andThen fun ρ' S' => evSs o ss ρ' S'
end

/-- a def: its parameters, all its names, its body; trunc: what it has laid in the store is forgotten at its end -/
structure Fn where
  np : Nat
  nl : Nat
  trunc : Bool
  body : List S
  /-- what was there may be changed; what is new is forgotten -/
  gc : Bool := false
def start (nl : Nat) (vs : List PV) : Env := vs.map some ++ List.replicate (nl - vs.length) none
def frzL (f : PV → Option PV) : List PV → Option (List PV)
  | [] => some []
  | x :: xs => match f x, frzL f xs with
    | some y, some ys => some (y :: ys)
    | _, _ => none
/-- a value that leaves a def: its own lists are changed no more; at most so deep -/
def frz (S : Store) (n0 : Nat) : Nat → PV → Option PV
  | 0, v => match v with
    | .tup _ | .lst _ | .ref _ => none
    | v => some v
  | d + 1, v => match v with
    | .tup xs => (frzL (frz S n0 d) xs).map .tup
    | .lst xs => (frzL (frz S n0 d) xs).map .lst
    | .ref k => if k < n0 then some (.ref k) else match S[k]? with
      | some (.lst xs) => (frzL (frz S n0 d) xs).map .lst
      | _ => none
    | v => some v
def close (trunc : Bool) (S0 : Store) (v : PV) (S : Store) : Out PV :=
  if trunc then (match frz S S0.length 60 v with
    | some v' => if S.take S0.length = S0 then .ok v' S0 else .bad
    | none => .bad) else .ok v S
def fin (trunc : Bool) (S0 : Store) : SOut → Out PV
  | .ret v S => close trunc S0 v S
  | .next _ S => close trunc S0 .non S
  | .exc c as _ S => if trunc then (if S.take S0.length = S0 then .exc c as S0 else .bad) else .exc c as S
  | _ => .bad
def Cell.low (n : Nat) : Cell → Bool
  | .lst xs => PV.underAll n xs
  | .dic _ vs => PV.underAll n vs
  | .ins _ fs => PV.underAll n (fs.map (·.2))
def lowS (n : Nat) (S : Store) : Bool := decide (n ≤ S.length) && (S.take n).all (Cell.low n)
def closeG (S0 : Store) (v : PV) (S : Store) : Out PV := match frz S S0.length 60 v with
  | some v' => if lowS S0.length S = true then .ok v' (S.take S0.length) else .bad
  | none => .bad
def finG (S0 : Store) : SOut → Out PV
  | .ret v S => closeG S0 v S
  | .next _ S => closeG S0 .non S
  | .exc c as _ S => if lowS S0.length S = true then .exc c as (S.take S0.length) else .bad
  | _ => .bad
/-- a call, at most n deep -/
def callF (fuel : Nat) (fns : List Fn) : Nat → Nat → List PV → Store → Out PV
  | 0, _, _, _ => .bad
  | n + 1, f, vs, S => match fns[f]? with
    | some F => if vs.length = F.np then cond F.gc (finG S (evSs ⟨fun g ws S' => callF fuel fns n g ws S', fuel⟩ F.body (start F.nl vs) S)) (fin F.trunc S (evSs ⟨fun g ws S' => callF fuel fns n g ws S', fuel⟩ F.body (start F.nl vs) S)) else .bad
    | none => .bad
end MK

set_option linter.all false
set_option autoImplicit false
/-! MkEv: how the evaluator is run in a proof. Plain Lean. -/
namespace MK
/-! what is behind waits -/
section
variable (o : Orc) (ρ : Env) (S : Store)
/-! statements -/
@[simp] theorem evSs_nil : evSs o [] ρ S = .next ρ S := rfl
@[simp] theorem evSs_cons (s : MK.S) (ss : List MK.S) : evSs o (s :: ss) ρ S = (evS o s ρ S).andThen fun ρ' S' => evSs o ss ρ' S' := rfl
def asgK (t : TG) (ρ : Env) (v : PV) (S1 : Store) : SOut := match asg t v ρ with
  | some ρ' => .next ρ' S1
  | none => .bad
@[simp] theorem evS_asg (t : TG) (e : C) : evS o (.asg t e) ρ S = (evE o e ρ S).toS ρ (asgK t ρ) := rfl
def setN (ρ : Env) (i : Nat) (v : PV) : Env := ρ.set i (some v)
theorem asgK_nm {i : Nat} {v : PV} {S1 : Store} (h : i < ρ.length) : asgK (.nm i) ρ v S1 = .next (ρ.set i (some v)) S1 := by
  show (match (if i < ρ.length then some (ρ.set i (some v)) else none) with | some ρ' => SOut.next ρ' S1 | none => .bad) = _
  rw [if_pos h]
theorem asgK_tp2 {i j : Nat} {x y : PV} {S1 : Store} (h : i < ρ.length) (h2 : j < ρ.length) : asgK (.tp [.nm i, .nm j]) ρ (.tup [x, y]) S1 = .next ((ρ.set i (some x)).set j (some y)) S1 := by
  have e : asg (.tp [.nm i, .nm j]) (.tup [x, y]) ρ = some ((ρ.set i (some x)).set j (some y)) := by
    show ((if i < ρ.length then some (ρ.set i (some x)) else none).bind fun ρ1 => (if j < ρ1.length then some (ρ1.set j (some y)) else none).bind fun ρ2 => some ρ2) = _
    rw [if_pos h, Option.bind_some, if_pos (by rw [List.length_set]; exact h2)]
    rfl
  unfold asgK
  rw [e]
theorem asgK_tp3 {i j k : Nat} {x y z : PV} {S1 : Store} (h : i < ρ.length) (h2 : j < ρ.length) (h3 : k < ρ.length) : asgK (.tp [.nm i, .nm j, .nm k]) ρ (.tup [x, y, z]) S1 = .next (((ρ.set i (some x)).set j (some y)).set k (some z)) S1 := by
  have e : asg (.tp [.nm i, .nm j, .nm k]) (.tup [x, y, z]) ρ = some (((ρ.set i (some x)).set j (some y)).set k (some z)) := by
    show ((if i < ρ.length then some (ρ.set i (some x)) else none).bind fun ρ1 => (if j < ρ1.length then some (ρ1.set j (some y)) else none).bind fun ρ2 => (if k < ρ2.length then some (ρ2.set k (some z)) else none).bind fun ρ3 => some ρ3) = _
    rw [if_pos h, Option.bind_some, if_pos (by rw [List.length_set]; exact h2), Option.bind_some, if_pos (by rw [List.length_set, List.length_set]; exact h3)]
    rfl
  unfold asgK
  rw [e]
def augK (i : Nat) (op : BO) (ρ : Env) (x y : PV) (S1 : Store) : SOut := match evAug op x y with
      | some z => .next (ρ.set i (some z)) S1
      | none => .bad
@[simp] theorem evS_aug (i : Nat) (op : BO) (e : C) : evS o (.aug i op e) ρ S = match ρ[i]? with
  | some (some x) => (evE o e ρ S).toS ρ (augK i op ρ x)
  | _ => .bad := rfl
@[simp] theorem evS_ex (e : C) : evS o (.ex e) ρ S = (evE o e ρ S).toS ρ fun _ S1 => .next ρ S1 := rfl
@[simp] theorem evS_ret (e : C) : evS o (.ret e) ρ S = (evE o e ρ S).toS ρ fun v S1 => .ret v S1 := rfl
@[simp] theorem evS_retN : evS o .retN ρ S = .ret .non S := rfl
@[simp] theorem evS_brk : evS o .brk ρ S = .brk ρ S := rfl
@[simp] theorem evS_cont : evS o .cont ρ S = .cont ρ S := rfl
@[simp] theorem evS_pass : evS o .pass ρ S = .next ρ S := rfl
def ifK (o : Orc) (a b : List MK.S) (ρ : Env) (v : PV) (S1 : Store) : SOut := match v with
    | .bl true => evSs o a ρ S1
    | .bl false => evSs o b ρ S1
    | _ => .bad
@[simp] theorem evS_ifs (c : C) (a b : List MK.S) : evS o (.ifs c a b) ρ S = (evE o c ρ S).toS ρ (ifK o a b ρ) := rfl
@[simp] theorem ifK_true (a b : List MK.S) (S1 : Store) : ifK o a b ρ (.bl true) S1 = evSs o a ρ S1 := rfl
@[simp] theorem ifK_false (a b : List MK.S) (S1 : Store) : ifK o a b ρ (.bl false) S1 = evSs o b ρ S1 := rfl
/-- a loop's turn -/
def turn (o : Orc) (t : TG) (b : List MK.S) (x : PV) (ρ : Env) (S : Store) : SOut := match asg t x ρ with
      | some ρ' => evSs o b ρ' S
      | none => .bad
theorem turn_nm {i : Nat} {b : List MK.S} {x : PV} (h : i < ρ.length) : turn o (.nm i) b x ρ S = evSs o b (ρ.set i (some x)) S := by
  unfold turn
  show (match (if i < ρ.length then some (ρ.set i (some x)) else none) with | some ρ' => evSs o b ρ' S | none => .bad) = _
  rw [if_pos h]
theorem turn_tp2 {i j : Nat} {b : List MK.S} {x y : PV} (h : i < ρ.length) (h2 : j < ρ.length) : turn o (.tp [.nm i, .nm j]) b (.tup [x, y]) ρ S = evSs o b ((ρ.set i (some x)).set j (some y)) S := by
  have e : asg (.tp [.nm i, .nm j]) (.tup [x, y]) ρ = some ((ρ.set i (some x)).set j (some y)) := by
    show ((if i < ρ.length then some (ρ.set i (some x)) else none).bind fun ρ1 => (if j < ρ1.length then some (ρ1.set j (some y)) else none).bind fun ρ2 => some ρ2) = _
    rw [if_pos h, Option.bind_some, if_pos (by rw [List.length_set]; exact h2)]
    rfl
  unfold turn
  rw [e]
def forK (o : Orc) (t : TG) (b : List MK.S) (ρ : Env) (w : Walk) (S1 : Store) : SOut := forL (forW (keptOf w) (turn o t b)) w.1 ρ S1
@[simp] theorem evS_for (t : TG) (it : It) (b : List MK.S) : evS o (.for_ t it b) ρ S = (evIt o it ρ S).toS ρ (forK o t b ρ) := rfl
@[simp] theorem evS_while (c : C) (b : List MK.S) : evS o (.while_ c b) ρ S = whileL (evE o c) (evSs o b) o.fuel ρ S := rfl
/-! expressions -/
@[simp] theorem evEs_nil : evEs o [] ρ S = .ok [] S := rfl
@[simp] theorem evEs_cons (c : C) (cs : List C) : evEs o (c :: cs) ρ S = (evE o c ρ S).bind fun v S1 => (evEs o cs ρ S1).bind fun vs S2 => .ok (v :: vs) S2 := rfl
@[simp] theorem evE_var (i : Nat) : evE o (.var i) ρ S = match ρ[i]? with
  | some (some v) => .ok v S
  | _ => .bad := rfl
@[simp] theorem evE_lit (v : PV) : evE o (.lit v) ρ S = .ok v S := rfl
@[simp] theorem evE_gl (v : PV) : evE o (.gl v) ρ S = .ok v S := rfl
def tupK (vs : List PV) (S' : Store) : Out PV := if vs.length ≤ SZ then .ok (.tup vs) S' else .bad
@[simp] theorem evE_tup (es : List C) : evE o (.tup es) ρ S = (evEs o es ρ S).bind tupK := rfl
def lstK (own : Bool) (vs : List PV) (S' : Store) : Out PV := if vs.length ≤ SZ then (if own then .ok (.ref S'.length) (S' ++ [.lst vs]) else .ok (.lst vs) S') else .bad
@[simp] theorem evE_lst (own : Bool) (es : List C) : evE o (.lst own es) ρ S = (evEs o es ρ S).bind (lstK own) := rfl
@[simp] theorem evE_bin (op : BO) (a b : C) : evE o (.bin op a b) ρ S = (evE o a ρ S).bind fun x S1 => (evE o b ρ S1).bind fun y S2 => lift S2 (evBin S2 op x y) := rfl
def negK (x : PV) (S1 : Store) : Out PV := match x with
    | .int i => .ok (.int (-i)) S1
    | _ => .bad
@[simp] theorem negK_int (i : Int) (S1 : Store) : negK (.int i) S1 = .ok (.int (-i)) S1 := rfl
@[simp] theorem evE_neg (a : C) : evE o (.neg a) ρ S = (evE o a ρ S).bind negK := rfl
def cmpK (op : CO) (x y : PV) (S2 : Store) : Out PV := lift S2 ((evCmp S2 op x y).map PV.bl)
@[simp] theorem evE_cmp (op : CO) (a b : C) : evE o (.cmp op a b) ρ S = (evE o a ρ S).bind fun x S1 => (evE o b ρ S1).bind (cmpK op x) := rfl
def cmp2K (o : Orc) (p q : CO) (c : C) (ρ : Env) (x y : PV) (S2 : Store) : Out PV := match evCmp S2 p x y with
    | some true => (evE o c ρ S2).bind fun z S3 => lift S3 ((evCmp S3 q y z).map PV.bl)
    | some false => .ok (.bl false) S2
    | none => .bad
@[simp] theorem evE_cmp2 (p q : CO) (a b c : C) : evE o (.cmp2 p q a b c) ρ S = (evE o a ρ S).bind fun x S1 => (evE o b ρ S1).bind fun y S2 => cmp2K o p q c ρ x y S2 := rfl
theorem cmp2_ok {p q : CO} {c : C} {x y z : PV} {b1 b2 : Bool} (h1 : evCmp S p x y = some b1) (hc : evE o c ρ S = .ok z S) (h2 : evCmp S q y z = some b2) : cmp2K o p q c ρ x y S = .ok (.bl (b1 && b2)) S := by
  unfold cmp2K
  rw [h1]
  cases b1 with
  | true => show (evE o c ρ S).bind _ = _; rw [hc, Out.bind_ok, h2]; rfl
  | false => rfl
@[simp] theorem cmp2_lit (i j k : Int) : cmp2K o .le .le (.lit (.int k)) ρ (.int i) (.int j) S = .ok (.bl (decide (i ≤ j) && decide (j ≤ k))) S := cmp2_ok o ρ S rfl rfl rfl
@[simp] theorem cmp2_gl (i j k : Int) : cmp2K o .le .le (.gl (.int k)) ρ (.int i) (.int j) S = .ok (.bl (decide (i ≤ j) && decide (j ≤ k))) S := cmp2_ok o ρ S rfl rfl rfl
@[simp] theorem evE_and (es : List C) : evE o (.and es) ρ S = evAnd o es ρ S := rfl
@[simp] theorem evE_or (es : List C) : evE o (.or es) ρ S = evOr o es ρ S := rfl
def andK (o : Orc) (ds : List C) (ρ : Env) (v : PV) (S1 : Store) : Out PV := match v with
    | .bl true => evAnd o ds ρ S1
    | .bl false => .ok (.bl false) S1
    | _ => .bad
def orK (o : Orc) (ds : List C) (ρ : Env) (v : PV) (S1 : Store) : Out PV := match v with
    | .bl false => evOr o ds ρ S1
    | .bl true => .ok (.bl true) S1
    | _ => .bad
@[simp] theorem evAnd_one (c : C) : evAnd o [c] ρ S = evE o c ρ S := rfl
@[simp] theorem evOr_one (c : C) : evOr o [c] ρ S = evE o c ρ S := rfl
@[simp] theorem evAnd_cons (c d : C) (ds : List C) : evAnd o (c :: d :: ds) ρ S = (evE o c ρ S).bind (andK o (d :: ds) ρ) := rfl
@[simp] theorem evOr_cons (c d : C) (ds : List C) : evOr o (c :: d :: ds) ρ S = (evE o c ρ S).bind (orK o (d :: ds) ρ) := rfl
@[simp] theorem andK_true (ds : List C) (S1 : Store) : andK o ds ρ (.bl true) S1 = evAnd o ds ρ S1 := rfl
@[simp] theorem andK_false (ds : List C) (S1 : Store) : andK o ds ρ (.bl false) S1 = .ok (.bl false) S1 := rfl
@[simp] theorem orK_false (ds : List C) (S1 : Store) : orK o ds ρ (.bl false) S1 = evOr o ds ρ S1 := rfl
@[simp] theorem orK_true (ds : List C) (S1 : Store) : orK o ds ρ (.bl true) S1 = .ok (.bl true) S1 := rfl
def notK (x : PV) (S1 : Store) : Out PV := match x with
    | .bl b => .ok (.bl (!b)) S1
    | _ => .bad
@[simp] theorem notK_bl (b : Bool) (S1 : Store) : notK (.bl b) S1 = .ok (.bl (!b)) S1 := rfl
@[simp] theorem evE_not (a : C) : evE o (.not a) ρ S = (evE o a ρ S).bind notK := rfl
def iteK (o : Orc) (a b : C) (ρ : Env) (x : PV) (S1 : Store) : Out PV := match x with
    | .bl true => evE o a ρ S1
    | .bl false => evE o b ρ S1
    | _ => .bad
@[simp] theorem evE_ite (t a b : C) : evE o (.ite t a b) ρ S = (evE o t ρ S).bind (iteK o a b ρ) := rfl
@[simp] theorem iteK_true (a b : C) (S1 : Store) : iteK o a b ρ (.bl true) S1 = evE o a ρ S1 := rfl
@[simp] theorem iteK_false (a b : C) (S1 : Store) : iteK o a b ρ (.bl false) S1 = evE o b ρ S1 := rfl
@[simp] theorem evE_ix (a b : C) : evE o (.ix a b) ρ S = (evE o a ρ S).bind fun x S1 => (evE o b ρ S1).bind fun y S2 => lift S2 (evIx S2 x y) := rfl
@[simp] theorem evE_sl (l h : Bool) (a lo hi : C) : evE o (.sl l h a lo hi) ρ S = (evE o a ρ S).bind fun x S1 => (if l then (evE o lo ρ S1).bind partI else .ok none S1).bind fun lo' S2 => (if h then (evE o hi ρ S2).bind partI else .ok none S2).bind fun hi' S3 =>
    lift S3 (evSl S3 x lo' hi') := rfl
@[simp] theorem partI_int (i : Int) (S1 : Store) : partI (.int i) S1 = .ok (some i) S1 := rfl
@[simp] theorem evE_call (f : Nat) (es : List C) : evE o (.call f es) ρ S = (evEs o es ρ S).bind (o.call f) := rfl
@[simp] theorem evE_bi (b : BI) (es : List C) : evE o (.bi b es) ρ S = (evEs o es ρ S).bind fun vs S' => lift S' (evBI S' b vs) := rfl
def bmK (o : Orc) (m : BM) (es : List C) (ρ : Env) (x : PV) (S1 : Store) : Out PV := if isStrV x then (evEs o es ρ S1).bind fun vs S2 => lift S2 (evBM S2 m x vs) else .bad
@[simp] theorem evE_bm (m : BM) (r : C) (es : List C) : evE o (.bm m r es) ρ S = (evE o r ρ S).bind (bmK o m es ρ) := rfl
@[simp] theorem bmK_str (m : BM) (es : List C) (s : List Nat) (S1 : Store) : bmK o m es ρ (.str s) S1 = (evEs o es ρ S1).bind fun vs S2 => lift S2 (evBM S2 m (.str s) vs) := rfl
@[simp] theorem evE_isi (a : C) (t : TyN) : evE o (.isi a t) ρ S = (evE o a ρ S).bind fun x S1 => lift S1 ((isTy S1 t x).map PV.bl) := rfl
/-- a comprehension's turn -/
def cturn (o : Orc) (tg : TG) (cond : List C) (elt : C) (ρ : Env) (w : Walk) : PV → Store → Out (Option PV) := compStep w (asg tg) (evCond o cond) (evE o elt) ρ
def lcE (own : Bool) (w : Walk) (ys : List PV) (S' : Store) : Out PV := if w.1.length ≤ SZ then (if own then .ok (.ref S'.length) (S' ++ [.lst ys]) else .ok (.lst ys) S') else .bad
def lcK (o : Orc) (own : Bool) (vs : List Nat) (tg : TG) (cond : List C) (elt : C) (ρ : Env) (w : Walk) (S1 : Store) : Out PV := (compL (cturn o tg cond elt (wipe ρ vs) w) [] w.1 S1).bind (lcE own w)
@[simp] theorem evE_lc (own : Bool) (vs : List Nat) (tg : TG) (it : It) (cond : List C) (elt : C) : evE o (.lc own vs tg it cond elt) ρ S = (evIt o it ρ S).bind (lcK o own vs tg cond elt ρ) := rfl
def appK (o : Orc) (a : C) (ρ : Env) (x : PV) (S1 : Store) : Out PV := if isListRef S1 x then (evE o a ρ S1).bind fun y S2 => appendTo S2 x y else .bad
@[simp] theorem evE_app (r a : C) : evE o (.app r a) ρ S = (evE o r ρ S).bind (appK o a ρ) := rfl
@[simp] theorem evIt_seq (a : C) : evIt o (.seq a) ρ S = (evE o a ρ S).bind fun v S1 => lift S1 (walkOf S1 v) := rfl
@[simp] theorem evIt_rng (es : List C) : evIt o (.rng es) ρ S = (evEs o es ρ S).bind fun vs S1 => lift S1 (rngOf vs) := rfl
@[simp] theorem evIt_enum (a : C) : evIt o (.enum a) ρ S = (evE o a ρ S).bind fun v S1 => lift S1 ((walkOf S1 v).bind enumW) := rfl
@[simp] theorem evCond_nil : evCond o [] ρ S = .ok true S := rfl
/-! operators -/
@[simp] theorem add_int (i j : Int) : evBin S .add (.int i) (.int j) = some (.int (i + j)) := rfl
@[simp] theorem sub_int (i j : Int) : evBin S .sub (.int i) (.int j) = some (.int (i - j)) := rfl
theorem mul_int {i j : Int} (h : mulOk i j = true) : evBin S .mul (.int i) (.int j) = some (.int (i * j)) := if_pos h
theorem mod_int {i j : Int} (h : 0 < j) : evBin S .mod (.int i) (.int j) = some (.int (i % j)) := if_pos h
theorem fdiv_int {i j : Int} (h : 0 < j ∧ j < 1073741824) : evBin S .fdiv (.int i) (.int j) = some (.int (i / j)) := if_pos h
theorem add_str {x y : List Nat} (h : x.length + y.length ≤ SZ) : evBin S .add (.str x) (.str y) = some (.str (x ++ y)) := if_pos h
theorem add_tup {x y : List PV} (h : x.length + y.length ≤ SZ) : evBin S .add (.tup x) (.tup y) = some (.tup (x ++ y)) := if_pos h
theorem add_lst {x y : List PV} (h : x.length + y.length ≤ SZ) : evBin S .add (.lst x) (.lst y) = some (.lst (x ++ y)) := if_pos h
@[simp] theorem aug_add (i j : Int) : evAug .add (.int i) (.int j) = some (.int (i + j)) := rfl
theorem aug_add_str {x y : List Nat} (h : x.length + y.length ≤ SZ) : evAug .add (.str x) (.str y) = some (.str (x ++ y)) := if_pos h
@[simp] theorem cmp_eq_int (i j : Int) : evCmp S .eq (.int i) (.int j) = some (decide (i = j)) := by
  show some (i == j) = _
  rfl
@[simp] theorem cmp_ne_int (i j : Int) : evCmp S .ne (.int i) (.int j) = some (!decide (i = j)) := rfl
@[simp] theorem cmp_eq_str (i j : List Nat) : evCmp S .eq (.str i) (.str j) = some (decide (i = j)) := by
  show some (i == j) = _
  congr 1
  by_cases h : i = j <;> simp [h]
@[simp] theorem cmp_ne_str (i j : List Nat) : evCmp S .ne (.str i) (.str j) = some (!decide (i = j)) := by
  show some (!(i == j)) = _
  congr 2
  by_cases h : i = j <;> simp [h]
@[simp] theorem cmp_lt (i j : Int) : evCmp S .lt (.int i) (.int j) = some (decide (i < j)) := rfl
@[simp] theorem cmp_le (i j : Int) : evCmp S .le (.int i) (.int j) = some (decide (i ≤ j)) := rfl
@[simp] theorem cmp_gt (i j : Int) : evCmp S .gt (.int i) (.int j) = some (decide (j < i)) := rfl
@[simp] theorem cmp_ge (i j : Int) : evCmp S .ge (.int i) (.int j) = some (decide (j ≤ i)) := rfl
@[simp] theorem cmp_isN (a : PV) : evCmp S .isN a .non = some (match a with | .non => true | _ => false) := rfl
@[simp] theorem cmp_notN (a : PV) : evCmp S .notN a .non = some (match a with | .non => false | _ => true) := rfl
@[simp] theorem mem_sign (c : Nat) (s : List Nat) : evCmp S .mem (.str [c]) (.str s) = some (decide (c ∈ s)) := rfl
@[simp] theorem nmem_sign (c : Nat) (s : List Nat) : evCmp S .nmem (.str [c]) (.str s) = some (!decide (c ∈ s)) := rfl
end
/-! loops -/
theorem forL_run {step : PV → Env → Store → SOut} (Inv : Nat → Env → Store → Prop) : ∀ (xs : List PV) (k : Nat) (ρ : Env) (S : Store), Inv k ρ S →
    (∀ i x ρ S, xs[i]? = some x → Inv (k + i) ρ S → ∃ ρ' S', (step x ρ S = .next ρ' S' ∨ step x ρ S = .cont ρ' S') ∧ Inv (k + i + 1) ρ' S') →
    ∃ ρ' S', forL step xs ρ S = .next ρ' S' ∧ Inv (k + xs.length) ρ' S'
  | [], k, ρ, S, h, _ => ⟨ρ, S, rfl, h⟩
  | x :: xs, k, ρ, S, h, hs => by
    obtain ⟨ρ1, S1, e, h1⟩ := hs 0 x ρ S rfl h
    obtain ⟨ρ2, S2, e2, h2⟩ := forL_run Inv xs (k + 1) ρ1 S1 h1 fun i y ρ S hy hi => by
      have := hs (i + 1) y ρ S (by simpa using hy) (by rw [show k + (i + 1) = k + 1 + i from by omega]; exact hi)
      rw [show k + (i + 1) + 1 = k + 1 + i + 1 from by omega] at this
      exact this
    refine ⟨ρ2, S2, ?_, by rw [List.length_cons, show k + (xs.length + 1) = k + 1 + xs.length from by omega]; exact h2⟩
    rcases e with e | e
    · unfold forL; rw [e]; exact e2
    · unfold forL; rw [e]; exact e2
theorem compL_run {step : PV → Store → Out (Option PV)} (f : PV → PV) (S : Store) : ∀ (xs acc : List PV), (∀ x ∈ xs, step x S = .ok (some (f x)) S) → compL step acc xs S = .ok (acc ++ xs.map f) S
  | [], acc, _ => by rw [List.map_nil, List.append_nil]; rfl
  | x :: xs, acc, h => by
    unfold compL
    rw [h x (by simp)]
    have := compL_run f S xs (acc ++ [f x]) fun y hy => h y (by simp [hy])
    rw [List.map_cons, show acc ++ f x :: xs.map f = acc ++ [f x] ++ xs.map f from by simp]
    exact this
theorem cturn_ok {o : Orc} {tg : TG} {elt : C} {ρ ρ' : Env} {w : Walk} {x y : PV} {S : Store} (h1 : asg tg x ρ = some ρ') (h2 : evE o elt ρ' S = .ok y S) (h3 : w.2 = none) : cturn o tg [] elt ρ w x S = .ok (some y) S := by
  unfold cturn compStep
  rw [h1]
  show (evE o elt ρ' S).bind (fun y S4 => if keptOf w S4 then .ok (some y) S4 else .bad) = _
  rw [h2, Out.bind_ok]
  unfold keptOf
  rw [h3]
  rfl
theorem forW_free {w : Walk} {step : PV → Env → Store → SOut} (h : w.2 = none) : forW (keptOf w) step = step := by
  funext x ρ S
  unfold forW
  have : ∀ S, keptOf w S = true := fun S => by unfold keptOf; rw [h]
  cases step x ρ S <;> simp [this]
@[simp] theorem enumFrom_length : ∀ (n : Nat) (xs : List PV), (enumFrom n xs).length = xs.length
  | _, [] => rfl
  | n, x :: xs => by rw [enumFrom, List.length_cons, List.length_cons, enumFrom_length]
theorem enumFrom_at : ∀ (n : Nat) (xs : List PV) (i : Nat), (enumFrom n xs)[i]? = (xs[i]?).map fun x => .tup [.int ((n + i : Nat) : Int), x]
  | _, [], i => by rw [enumFrom]; rfl
  | n, x :: xs, 0 => rfl
  | n, x :: xs, i + 1 => by
    rw [enumFrom, List.getElem?_cons_succ, List.getElem?_cons_succ, enumFrom_at]
    rw [show n + 1 + i = n + (i + 1) from by omega]
end MK

set_option linter.all false
set_option autoImplicit false
/-! MkFig: a number's figures. Plain Lean. -/
namespace MK
theorem figs_nat (n : Nat) : figs (n : Int) = (Nat.toDigits 10 n).map Char.toNat := by
  unfold figs
  have : (toString (n : Int)) = Nat.repr n := rfl
  rw [this, Nat.toList_repr]
theorem digit_nat {d : Nat} (h : d < 10) : (Nat.digitChar d).toNat = 48 + d := by
  have : ∀ d : Fin 10, (Nat.digitChar d.val).toNat = 48 + d.val := by decide
  exact this ⟨d, h⟩
theorem figs_if (n : Nat) : figs (n : Int) = if n < 10 then [48 + n] else figs ((n / 10 : Nat) : Int) ++ [48 + n % 10] := by
  rw [figs_nat, Nat.toDigits_eq_if (by decide)]
  by_cases h : n < 10
  · rw [if_pos h, if_pos h]
    simp [digit_nat h]
  · rw [if_neg h, if_neg h, List.map_append, figs_nat]
    simp [digit_nat (Nat.mod_lt n (by decide : 0 < 10))]
theorem figs_digit : ∀ (n : Nat) (c : Nat), c ∈ figs (n : Int) → 48 ≤ c ∧ c ≤ 57 := by
  intro n
  induction n using Nat.strongRecOn with
  | ind n ih =>
    intro c hc
    rw [figs_if] at hc
    split at hc
    · have := List.mem_singleton.mp hc
      omega
    · rcases List.mem_append.mp hc with h | h
      · exact ih (n / 10) (by omega) c h
      · have := List.mem_singleton.mp h
        omega
theorem numOf_snoc : ∀ (s : List Nat) (a c : Nat), 48 ≤ c → c ≤ 57 → numOf (s ++ [c]) a = (numOf s a).map fun n => 10 * n + (c - 48)
  | [], a, c, h1, h2 => by
    show (if 48 ≤ c ∧ c ≤ 57 then numOf [] (10 * a + (c - 48)) else none) = _
    rw [if_pos ⟨h1, h2⟩]
    rfl
  | x :: s, a, c, h1, h2 => by
    show (if 48 ≤ x ∧ x ≤ 57 then numOf (s ++ [c]) (10 * a + (x - 48)) else none) = (if 48 ≤ x ∧ x ≤ 57 then numOf s (10 * a + (x - 48)) else none).map _
    split
    · exact numOf_snoc s _ c h1 h2
    · rfl
theorem numOf_figs (n : Nat) : numOf (figs (n : Int)) 0 = some n := by
  induction n using Nat.strongRecOn with
  | ind n ih =>
    rw [figs_if]
    split
    · show (if 48 ≤ 48 + n ∧ 48 + n ≤ 57 then numOf [] (10 * 0 + (48 + n - 48)) else none) = _
      rw [if_pos (by omega)]
      show some _ = _
      congr 1
      omega
    · rw [numOf_snoc _ _ _ (by omega) (by omega), ih (n / 10) (by omega)]
      show some (10 * (n / 10) + (48 + n % 10 - 48)) = _
      congr 1
      omega
theorem figs_inj {m n : Nat} (h : figs (m : Int) = figs (n : Int)) : m = n := by
  have := numOf_figs m
  rw [h, numOf_figs] at this
  exact (Option.some.inj this).symm
theorem figs_pos (n : Nat) : 0 < (figs (n : Int)).length := by
  rw [figs_if]
  split <;> simp
theorem figs_le : ∀ (k n : Nat), 0 < k → n < 10 ^ k → (figs (n : Int)).length ≤ k
  | 0, n, h, _ => absurd h (by decide)
  | 1, n, _, h => by
    rw [figs_if, if_pos (by simpa using h)]
    simp
  | k + 2, n, _, h => by
    rw [figs_if]
    split
    · simp
    · rw [List.length_append]
      have : (figs ((n / 10 : Nat) : Int)).length ≤ k + 1 := figs_le (k + 1) (n / 10) (by omega) (by rw [Nat.div_lt_iff_lt_mul (by decide)]; rw [Nat.pow_succ] at h; exact h)
      show (figs ((n / 10 : Nat) : Int)).length + 1 ≤ k + 2
      omega
theorem evBI_str (S : Store) {i : Int} (h : i.natAbs < 2 ^ 64) : evBI S .str [.int i] = some (.str (figs i)) := by
  have h2 : i.natAbs < 2 ^ 1000 := Nat.lt_of_lt_of_le h (Nat.pow_le_pow_right (by decide) (by decide))
  unfold evBI
  exact if_pos h2
theorem evBI_str_nat (S : Store) {n : Nat} (h : n < 2 ^ 64) : evBI S .str [.int (n : Int)] = some (.str (figs (n : Int))) := evBI_str S (by rw [Int.natAbs_natCast]; exact h)
theorem evBI_int_str (S : Store) {s : List Nat} {n : Nat} (h0 : 0 < s.length) (h1 : s.length ≤ 640) (h : numOf s 0 = some n) : evBI S .int [.str s] = some (.int (n : Int)) := by
  show (if 0 < s.length ∧ s.length ≤ 640 then (numOf s 0).map fun (n : Nat) => PV.int (n : Int) else none) = _
  rw [if_pos ⟨h0, h1⟩, h]
  rfl
section
variable (S : Store)
@[simp] theorem len_str (s : List Nat) : evBI S .len [.str s] = some (.int s.length) := rfl
@[simp] theorem len_tup (s : List PV) : evBI S .len [.tup s] = some (.int s.length) := rfl
@[simp] theorem len_lst (s : List PV) : evBI S .len [.lst s] = some (.int s.length) := rfl
theorem len_ref {n : Nat} {xs : List PV} (h : S[n]? = some (.lst xs)) : evBI S .len [.ref n] = some (.int xs.length) := by
  have e : dicOf S (.ref n) = none := by show (match S[n]? with | some (.dic ks vs) => some (ks, vs) | _ => none) = _; rw [h]
  have e2 : seqOf S (.ref n) = some xs := by show (match S[n]? with | some (.lst xs) => some xs | _ => none) = _; rw [h]
  show (match dicOf S (.ref n) with | some (ks, _) => some (PV.int ks.length) | none => (seqOf S (.ref n)).map fun (xs : List PV) => PV.int xs.length) = _
  rw [e, e2]
  rfl
@[simp] theorem int_int (i : Int) : evBI S .int [.int i] = some (.int i) := rfl
@[simp] theorem abs_int (i : Int) : evBI S .abs [.int i] = some (.int (if i < 0 then -i else i)) := rfl
@[simp] theorem min_int (i j : Int) : evBI S .min2 [.int i, .int j] = some (.int (if j < i then j else i)) := rfl
@[simp] theorem max_int (i j : Int) : evBI S .max2 [.int i, .int j] = some (.int (if i < j then j else i)) := rfl
@[simp] theorem tuple_lst (xs : List PV) : evBI S .tuple [.lst xs] = some (.tup xs) := rfl
@[simp] theorem tuple_tup (xs : List PV) : evBI S .tuple [.tup xs] = some (.tup xs) := rfl
theorem tuple_ref {n : Nat} {xs : List PV} (h : S[n]? = some (.lst xs)) : evBI S .tuple [.ref n] = some (.tup xs) := by
  show ((match S[n]? with | some (.lst xs) => some xs | _ => none).map fun xs => PV.tup xs) = _
  rw [h]; rfl
@[simp] theorem isTy_str_str (s : List Nat) : isTy S .str (.str s) = some true := rfl
@[simp] theorem isTy_int_int (s : Int) : isTy S .int (.int s) = some true := rfl
@[simp] theorem isTy_bool_int (s : Int) : isTy S .bool (.int s) = some false := rfl
@[simp] theorem isTy_tuple_tup (s : List PV) : isTy S .tuple (.tup s) = some true := rfl
@[simp] theorem walk_str (s : List Nat) : walkOf S (.str s) = some (s.map fun c => .str [c], none) := rfl
@[simp] theorem walk_tup (s : List PV) : walkOf S (.tup s) = some (s, none) := rfl
@[simp] theorem walk_lst (s : List PV) : walkOf S (.lst s) = some (s, none) := rfl
@[simp] theorem enum_some (s : List PV) : (some (s, none) : Option Walk).bind enumW = some (enumFrom 0 s, none) := rfl
end
theorem rng_one {n : Nat} (h : n < 1000000000) : rngOf [.int (n : Int)] = some (rngL 0 n, none) := by
  unfold rngOf
  have h1 : -BIG ≤ (n : Int) ∧ (n : Int) < BIG := by
    have : BIG = 1073741824 := rfl
    rw [this]; omega
  simp only [h1, and_self, if_true, Int.toNat_natCast]
theorem rng_two {m n : Nat} (h : n < 1000000000) (h2 : m < 1000000000) : rngOf [.int (m : Int), .int (n : Int)] = some (rngL m (n - m), none) := by
  unfold rngOf
  have h1 : -BIG ≤ (m : Int) ∧ (m : Int) < BIG ∧ -BIG ≤ (n : Int) ∧ (n : Int) < BIG := by
    have : BIG = 1073741824 := rfl
    rw [this]; omega
  simp only [h1, and_self, if_true]
  rw [show ((n : Int) - (m : Int)).toNat = n - m from by omega]
@[simp] theorem rngL_length (lo : Int) (n : Nat) : (rngL lo n).length = n := by simp [rngL]
theorem rngL_at {lo : Int} {n i : Nat} {x : PV} (h : (rngL lo n)[i]? = some x) : i < n ∧ x = .int (lo + (i : Int)) := by
  have hi : i < n := by simpa using (List.getElem?_eq_some_iff.mp h).1
  unfold rngL at h
  rw [List.getElem?_map, List.getElem?_range hi] at h
  cases h
  exact ⟨hi, rfl⟩
theorem it_rng1 {o : Orc} {e : C} {ρ : Env} {S S1 : Store} {n : Nat} (h : evE o e ρ S = .ok (.int (n : Int)) S1) (hn : n < 1000000000) : evIt o (.rng [e]) ρ S = .ok (rngL 0 n, none) S1 := by
  rw [evIt_rng, evEs_cons, h, Out.bind_ok, evEs_nil, Out.bind_ok, Out.bind_ok, rng_one hn, lift_some]
theorem for_rng1 {o : Orc} {e : C} {ρ : Env} {S S1 : Store} {n : Nat} {t : TG} {b : List MK.S} (h : evE o e ρ S = .ok (.int (n : Int)) S1) (hn : n < 1000000000) : evS o (.for_ t (.rng [e]) b) ρ S = forL (turn o t b) (rngL 0 n) ρ S1 := by
  rw [evS_for, it_rng1 h hn, Out.toS_ok, forK, forW_free rfl]
theorem it_rng2 {o : Orc} {d e : C} {ρ : Env} {S S1 S2 : Store} {m n : Nat} (hd : evE o d ρ S = .ok (.int (m : Int)) S1) (h : evE o e ρ S1 = .ok (.int (n : Int)) S2) (hm : m < 1000000000) (hn : n < 1000000000) : evIt o (.rng [d, e]) ρ S = .ok (rngL m (n - m), none) S2 := by
  rw [evIt_rng, evEs_cons, hd, Out.bind_ok, evEs_cons, h, Out.bind_ok, evEs_nil, Out.bind_ok, Out.bind_ok, Out.bind_ok, rng_two hn hm, lift_some]
theorem for_rng2 {o : Orc} {d e : C} {ρ : Env} {S S1 S2 : Store} {m n : Nat} {t : TG} {b : List MK.S} (hd : evE o d ρ S = .ok (.int (m : Int)) S1) (h : evE o e ρ S1 = .ok (.int (n : Int)) S2) (hm : m < 1000000000) (hn : n < 1000000000) : evS o (.for_ t (.rng [d, e]) b) ρ S = forL (turn o t b) (rngL m (n - m)) ρ S2 := by
  rw [evS_for, it_rng2 hd h hm hn, Out.toS_ok, forK, forW_free rfl]
theorem ixs_str {S : Store} {s : List Nat} {i c : Nat} (h : s[i]? = some c) : evIx S (.str s) (.int (i : Int)) = some (.str [c]) := by
  show (ixAt s (i : Int)).map _ = _
  unfold ixAt
  rw [if_pos (by omega), Int.toNat_natCast, h]
  rfl
theorem ixs_tup {S : Store} {s : List PV} {i : Nat} {c : PV} (h : s[i]? = some c) : evIx S (.tup s) (.int (i : Int)) = some c := by
  show ixAt s (i : Int) = _
  unfold ixAt
  rw [if_pos (by omega), Int.toNat_natCast, h]
theorem ixs_lst {S : Store} {s : List PV} {i : Nat} {c : PV} (h : s[i]? = some c) : evIx S (.lst s) (.int (i : Int)) = some c := by
  show ixAt s (i : Int) = _
  unfold ixAt
  rw [if_pos (by omega), Int.toNat_natCast, h]
theorem cut_to {α : Type} (xs : List α) (k : Nat) : cut xs none (some (k : Int)) = xs.take k := by
  unfold cut clip
  have h0 : ¬ ((k : Int) < 0) := by omega
  simp [h0]
theorem cut_from {α : Type} (xs : List α) (k : Nat) : cut xs (some (k : Int)) none = xs.drop k := by
  unfold cut clip
  have h0 : ¬ ((k : Int) < 0) := by omega
  simp only [h0, if_false, Int.toNat_natCast]
  by_cases h : k ≤ xs.length
  · rw [Nat.min_eq_left h, List.take_of_length_le (by rw [List.length_drop]; exact Nat.le_refl _)]
  · rw [Nat.min_eq_right (by omega), List.drop_of_length_le (Nat.le_refl _), List.drop_of_length_le (by omega)]
    simp
theorem cut_mid {α : Type} (xs : List α) (j k : Nat) : cut xs (some (j : Int)) (some (k : Int)) = (xs.take k).drop j := by
  unfold cut clip
  have h0 : ¬ ((k : Int) < 0) := by omega
  have h1 : ¬ ((j : Int) < 0) := by omega
  simp only [h0, h1, if_false, Int.toNat_natCast]
  rw [List.drop_take]
  by_cases hj : j ≤ xs.length
  · rw [Nat.min_eq_left hj]
    by_cases hk : k ≤ xs.length
    · rw [Nat.min_eq_left hk]
    · rw [Nat.min_eq_right (by omega), List.take_of_length_le (by rw [List.length_drop]; omega), List.take_of_length_le (by rw [List.length_drop]; omega)]
  · have e1 : min j xs.length = xs.length := Nat.min_eq_right (by omega)
    rw [e1, List.drop_of_length_le (Nat.le_refl _), List.drop_of_length_le (by omega)]
    simp
theorem tup1_ok {o : Orc} {a : C} {ρ : Env} {S : Store} {x : PV} (h1 : evE o a ρ S = .ok x S) : evE o (.tup [a]) ρ S = .ok (.tup [x]) S := by
  rw [evE_tup, evEs_cons, h1, Out.bind_ok, evEs_nil, Out.bind_ok, Out.bind_ok]; rfl
theorem tup2_ok {o : Orc} {a b : C} {ρ : Env} {S : Store} {x y : PV} (h1 : evE o a ρ S = .ok x S) (h2 : evE o b ρ S = .ok y S) : evE o (.tup [a, b]) ρ S = .ok (.tup [x, y]) S := by
  rw [evE_tup, evEs_cons, h1, Out.bind_ok, evEs_cons, h2, Out.bind_ok, evEs_nil, Out.bind_ok, Out.bind_ok, Out.bind_ok]; rfl
theorem tup3_ok {o : Orc} {a b c : C} {ρ : Env} {S : Store} {x y z : PV} (h1 : evE o a ρ S = .ok x S) (h2 : evE o b ρ S = .ok y S) (h3 : evE o c ρ S = .ok z S) : evE o (.tup [a, b, c]) ρ S = .ok (.tup [x, y, z]) S := by
  rw [evE_tup, evEs_cons, h1, Out.bind_ok, evEs_cons, h2, Out.bind_ok, evEs_cons, h3, Out.bind_ok, evEs_nil, Out.bind_ok, Out.bind_ok, Out.bind_ok, Out.bind_ok]; rfl
section
variable (S : Store)
theorem sl_str_to (s : List Nat) (k : Nat) : evSl S (.str s) none (some (k : Int)) = some (.str (s.take k)) := by show some (PV.str (cut s _ _)) = _; rw [cut_to]
theorem sl_str_from (s : List Nat) (k : Nat) : evSl S (.str s) (some (k : Int)) none = some (.str (s.drop k)) := by show some (PV.str (cut s _ _)) = _; rw [cut_from]
theorem sl_str_mid (s : List Nat) (j k : Nat) : evSl S (.str s) (some (j : Int)) (some (k : Int)) = some (.str ((s.take k).drop j)) := by show some (PV.str (cut s _ _)) = _; rw [cut_mid]
theorem sl_tup_to (s : List PV) (k : Nat) : evSl S (.tup s) none (some (k : Int)) = some (.tup (s.take k)) := by show some (PV.tup (cut s _ _)) = _; rw [cut_to]
theorem sl_lst_to (s : List PV) (k : Nat) : evSl S (.lst s) none (some (k : Int)) = some (.lst (s.take k)) := by show some (PV.lst (cut s _ _)) = _; rw [cut_to]
theorem sl_lst_from (s : List PV) (k : Nat) : evSl S (.lst s) (some (k : Int)) none = some (.lst (s.drop k)) := by show some (PV.lst (cut s _ _)) = _; rw [cut_from]
theorem sl_lst_mid (s : List PV) (j k : Nat) : evSl S (.lst s) (some (j : Int)) (some (k : Int)) = some (.lst ((s.take k).drop j)) := by show some (PV.lst (cut s _ _)) = _; rw [cut_mid]
end
/-! an end without places -/
theorem fin_non (S : Store) : fin true S (.ret .non S) = .ok .non S := by simp [fin, close, frz]
theorem fin_int (S : Store) (i : Int) : fin true S (.ret (.int i) S) = .ok (.int i) S := by simp [fin, close, frz]
theorem fin_bl (S : Store) (i : Bool) : fin true S (.ret (.bl i) S) = .ok (.bl i) S := by simp [fin, close, frz]
theorem fin_str (S : Store) (i : List Nat) : fin true S (.ret (.str i) S) = .ok (.str i) S := by simp [fin, close, frz]
/-- and / or in one go -/
theorem and_if {o : Orc} {ds : List C} {ρ : Env} {S : Store} {b : Bool} {r : Out PV} (h1 : b = true → evAnd o ds ρ S = r) (h2 : b = false → Out.ok (PV.bl false) S = r) : andK o ds ρ (.bl b) S = r := by
  cases b
  · exact h2 rfl
  · exact h1 rfl
theorem and_ok {o : Orc} {ds : List C} {ρ : Env} {S : Store} {b c : Bool} (h : b = true → evAnd o ds ρ S = .ok (.bl c) S) : andK o ds ρ (.bl b) S = .ok (.bl (b && c)) S := by
  cases b
  · rfl
  · exact h rfl
theorem or_ok {o : Orc} {ds : List C} {ρ : Env} {S : Store} {b c : Bool} (h : b = false → evOr o ds ρ S = .ok (.bl c) S) : orK o ds ρ (.bl b) S = .ok (.bl (b || c)) S := by
  cases b
  · exact h rfl
  · rfl
/-! maps over lists -/
theorem compL_map {α : Type} {step : PV → Store → Out (Option PV)} (g h : α → PV) (S : Store) : ∀ (l : List α) (acc : List PV), (∀ a ∈ l, step (g a) S = .ok (some (h a)) S) → compL step acc (l.map g) S = .ok (acc ++ l.map h) S
  | [], acc, _ => by simp [compL]
  | a :: l, acc, hs => by
    rw [List.map_cons]
    unfold compL
    rw [hs a (by simp)]
    have := compL_map g h S l (acc ++ [h a]) fun b hb => hs b (by simp [hb])
    rw [List.map_cons, show acc ++ h a :: l.map h = acc ++ [h a] ++ l.map h from by simp]
    exact this
theorem blsOf_map {α : Type} (p : α → Bool) : ∀ l : List α, blsOf (l.map fun a => PV.bl (p a)) = some (l.map p)
  | [] => rfl
  | a :: l => by
    rw [List.map_cons, List.map_cons]
    show (blsOf (l.map fun a => PV.bl (p a))).map (p a :: ·) = _
    rw [blsOf_map p l]
    rfl
theorem strsOf_map {α : Type} (p : α → List Nat) : ∀ l : List α, strsOf (l.map fun a => PV.str (p a)) = some (l.map p)
  | [] => rfl
  | a :: l => by
    rw [List.map_cons, List.map_cons]
    show (strsOf (l.map fun a => PV.str (p a))).map (p a :: ·) = _
    rw [strsOf_map p l]
    rfl
theorem evBI_all {α : Type} (S : Store) (p : α → Bool) (l : List α) : evBI S .all [.lst (l.map fun a => PV.bl (p a))] = some (.bl (l.all p)) := by
  show ((blsOf (l.map fun a => PV.bl (p a))).map fun bs => PV.bl (bs.all id)) = _
  rw [blsOf_map]
  show some (PV.bl ((l.map p).all id)) = _
  rw [List.all_map]
  rfl
theorem joinL_nil : ∀ l : List (List Nat), joinL [] l = l.flatten
  | [] => rfl
  | [x] => by simp [joinL]
  | x :: y :: r => by
    unfold joinL
    rw [joinL_nil (y :: r)]
    simp
theorem evBM_join {α : Type} (S : Store) (p : α → List Nat) (l : List α) (h : ((l.map p).map List.length).sum ≤ SZ) : evBM S .join (.str []) [.lst (l.map fun a => PV.str (p a))] = some (.str (l.map p).flatten) := by
  show (match strsOf (l.map fun a => PV.str (p a)) with
      | some ss => if (ss.map List.length).sum + ss.length * ([] : List Nat).length ≤ SZ then some (PV.str (joinL [] ss)) else none
      | none => none) = _
  rw [strsOf_map]
  simp only [List.length_nil, Nat.mul_zero, Nat.add_zero]
  rw [if_pos h, joinL_nil]
theorem join_strs (S : Store) (l : List (List Nat)) (h : l.flatten.length ≤ SZ) : evBM S .join (.str []) [.lst (l.map .str)] = some (.str l.flatten) := by
  have := evBM_join S (fun a => a) l (by rw [List.map_id']; rw [List.length_flatten] at h; exact h)
  rw [List.map_id'] at this
  exact this
end MK

set_option linter.all false
set_option autoImplicit false
set_option maxRecDepth 100000
set_option maxHeartbeats 4000000
/-! MkDraws: the draws that every law begins with. Plain Lean. -/
namespace MK
def bDraws : List S := [
  .asg (.nm 2) (.lst true []),
  .asg (.nm 3) (.lit (.int 7)),
  .for_ (.nm 4) (.seq (.sl false true (.var 0) (.lit .non) (.lit (.int 63)))) [.asg (.nm 6) (.bi .abs [.var 4]), .asg (.nm 3) (.bin .mod (.bi .int [.bin .add (.bin .add (.bin .mul (.var 3) (.lit (.int 48271))) (.var 6)) (.lit (.int 11))]) (.lit (.int 2147483647))), .ifs (.cmp .ge (.var 6) (.bin .pow (.lit (.int 10)) (.lit (.int 18)))) [.for_ (.nm 5) (.rng [.lit (.int 60)]) [.ifs (.cmp .gt (.var 6) (.lit (.int 0))) [.ex (.app (.var 2) (.bin .mod (.bi .int [.var 6]) (.lit (.int 1009)))), .asg (.nm 6) (.bin .fdiv (.var 6) (.lit (.int 1009)))] []]] [.ex (.app (.var 2) (.bin .mod (.bin .fdiv (.bi .int [.bin .add (.bin .mul (.var 3) (.lit (.int 16807))) (.lit (.int 5))]) (.lit (.int 3))) (.lit (.int 65521))))]],
  .for_ (.nm 5) (.rng [.var 1]) [.ifs (.cmp .lt (.bi .len [.var 2]) (.var 1)) [.asg (.nm 3) (.bin .mod (.bi .int [.bin .add (.bin .add (.bin .mul (.var 3) (.lit (.int 69621))) (.var 5)) (.lit (.int 1))]) (.lit (.int 2147483647))), .ex (.app (.var 2) (.bin .mod (.bin .fdiv (.bi .int [.var 3]) (.lit (.int 7))) (.lit (.int 65521))))] []],
  .ret (.sl false true (.var 2) (.lit .non) (.var 1))]
/-- one more at the end of the newest list -/
theorem app_end {o : Orc} {a : C} {ρ : Env} {S : Store} {xs : List PV} {y : PV} (h : evE o a ρ (S ++ [.lst xs]) = .ok y (S ++ [.lst xs])) (hl : xs.length < SZ) : appK o a ρ (.ref S.length) (S ++ [.lst xs]) = .ok .non (S ++ [.lst (xs ++ [y])]) := by
  have hg : (S ++ [Cell.lst xs])[S.length]? = some (.lst xs) := by simp
  have hr : isListRef (S ++ [Cell.lst xs]) (.ref S.length) = true := by
    show (match (S ++ [Cell.lst xs])[S.length]? with | some (.lst _) => true | _ => false) = true
    rw [hg]
  unfold appK
  rw [if_pos hr, h, Out.bind_ok]
  show (match (S ++ [Cell.lst xs])[S.length]? with
    | some (.lst xs') => if xs'.length < SZ then Out.ok PV.non ((S ++ [Cell.lst xs]).set S.length (.lst (xs' ++ [y]))) else .bad
    | _ => .bad) = _
  rw [hg]
  simp only [if_pos hl]
  simp
def okD (ds : List Int) : Prop := ∀ d ∈ ds, 0 ≤ d ∧ d < 65521
theorem okD.snoc {ds : List Int} {d : Int} (h : okD ds) (h1 : 0 ≤ d) (h2 : d < 65521) : okD (ds ++ [d]) := fun x hx => by
  rcases List.mem_append.mp hx with q | q
  · exact h x q
  · rw [List.mem_singleton.mp q]; exact ⟨h1, h2⟩
theorem map_snoc (ds : List Int) (d : Int) : (ds.map PV.int) ++ [PV.int d] = (ds ++ [d]).map PV.int := by simp
section
variable (o : Orc)
theorem mulK (S : Store) (i : Int) (j : Int) (h : j.natAbs < 2 ^ 64) : evBin S .mul (.int i) (.int j) = some (.int (i * j)) := mul_int _ (by unfold mulOk; rw [Bool.or_eq_true]; exact .inr (decide_eq_true h))
theorem pow18 (S : Store) : evBin S .pow (.int 10) (.int 18) = some (.int (10 ^ 18)) := by
  show (if (0 : Int) ≤ 18 ∧ (18 : Int) ≤ 1000000 ∧ (10 : Int).natAbs < 2 ^ 64 then some (PV.int ((10 : Int) ^ (18 : Int).toNat)) else none) = _
  rw [if_pos (by decide)]
  rfl
/-- the inner loop -/
theorem draws_in (S : Store) (sc mn : PV) (a b c : Option PV) (num : Int) (ds : List Int) (hd : okD ds) (hl : ds.length + 60 < SZ) :
    ∃ ds' : List Int, okD ds' ∧ ds'.length ≤ ds.length + 60 ∧ ∃ k' num', forL (turn o (.nm 5) [.ifs (.cmp .gt (.var 6) (.lit (.int 0))) [.ex (.app (.var 2) (.bin .mod (.bi .int [.var 6]) (.lit (.int 1009)))), .asg (.nm 6) (.bin .fdiv (.var 6) (.lit (.int 1009)))] []]) (rngL 0 60)
      [some sc, some mn, some (.ref S.length), a, b, c, some (.int num)] (S ++ [.lst (ds.map .int)]) = .next [some sc, some mn, some (.ref S.length), a, b, k', num'] (S ++ [.lst (ds'.map .int)]) := by
  have key := forL_run (step := turn o (.nm 5) [.ifs (.cmp .gt (.var 6) (.lit (.int 0))) [.ex (.app (.var 2) (.bin .mod (.bi .int [.var 6]) (.lit (.int 1009)))), .asg (.nm 6) (.bin .fdiv (.var 6) (.lit (.int 1009)))] []])
    (fun i ρ S' => ∃ ds' : List Int, okD ds' ∧ ds'.length ≤ ds.length + i ∧ ∃ (k' : Option PV) (n' : Int), ρ = [some sc, some mn, some (.ref S.length), a, b, k', some (.int n')] ∧ S' = S ++ [.lst (ds'.map .int)]) (rngL 0 60) 0 [some sc, some mn, some (.ref S.length), a, b, c, some (.int num)] (S ++ [.lst (ds.map .int)]) ⟨ds, hd, by omega, c, num, rfl, rfl⟩ ?_
  · obtain ⟨ρ', S', e, ds', hd', hl', k', n', rfl, rfl⟩ := key
    refine ⟨ds', hd', by simpa using hl', k', some (.int n'), e⟩
  · rintro i x ρ S' hx ⟨ds1, hd1, hl1, k1, n1, rfl, rfl⟩
    obtain ⟨hi, rfl⟩ := rngL_at hx
    rw [turn_nm _ _ _ (by simp)]
    have hmod : ∀ S z, evBin S .mod (.int z) (.int 1009) = some (.int (z % 1009)) := fun S z => mod_int _ (by decide)
    have hdiv : ∀ S z, evBin S .fdiv (.int z) (.int 1009) = some (.int (z / 1009)) := fun S z => fdiv_int _ (by decide)
    by_cases hp : 0 < n1
    · have ha : appK o (.bin .mod (.bi .int [.var 6]) (.lit (.int 1009))) [some sc, some mn, some (.ref S.length), a, b, some (.int (0 + (i : Int))), some (.int n1)] (.ref S.length) (S ++ [.lst (ds1.map .int)]) = .ok .non (S ++ [.lst (ds1.map .int ++ [.int (n1 % 1009)])]) :=
        app_end (by simp [hmod]) (by rw [List.length_map]; omega)
      simp only [Int.zero_add] at ha
      rw [map_snoc] at ha
      refine ⟨[some sc, some mn, some (.ref S.length), a, b, some (.int i), some (.int (n1 / 1009))], S ++ [.lst ((ds1 ++ [n1 % 1009]).map .int)], .inl ?_, ds1 ++ [n1 % 1009], hd1.snoc (Int.emod_nonneg _ (by decide)) (by have := Int.emod_lt_of_pos n1 (show (0:Int) < 1009 by decide); omega), by rw [List.length_append]; simp; omega, some (.int i), n1 / 1009, rfl, rfl⟩
      simp [cmpK, hp, ha, hdiv, asgK_nm]
    · refine ⟨[some sc, some mn, some (.ref S.length), a, b, some (.int i), some (.int n1)], S ++ [.lst (ds1.map .int)], .inl ?_, ds1, hd1, by omega, some (.int i), n1, rfl, rfl⟩
      simp [cmpK, hp]

def in60 : List MK.S := [.ifs (.cmp .gt (.var 6) (.lit (.int 0))) [.ex (.app (.var 2) (.bin .mod (.bi .int [.var 6]) (.lit (.int 1009)))), .asg (.nm 6) (.bin .fdiv (.var 6) (.lit (.int 1009)))] []]
def outB : List MK.S := [.asg (.nm 6) (.bi .abs [.var 4]), .asg (.nm 3) (.bin .mod (.bi .int [.bin .add (.bin .add (.bin .mul (.var 3) (.lit (.int 48271))) (.var 6)) (.lit (.int 11))]) (.lit (.int 2147483647))), .ifs (.cmp .ge (.var 6) (.bin .pow (.lit (.int 10)) (.lit (.int 18)))) [.for_ (.nm 5) (.rng [.lit (.int 60)]) in60] [.ex (.app (.var 2) (.bin .mod (.bin .fdiv (.bi .int [.bin .add (.bin .mul (.var 3) (.lit (.int 16807))) (.lit (.int 5))]) (.lit (.int 3))) (.lit (.int 65521))))]]
def manyB : List MK.S := [.ifs (.cmp .lt (.bi .len [.var 2]) (.var 1)) [.asg (.nm 3) (.bin .mod (.bi .int [.bin .add (.bin .add (.bin .mul (.var 3) (.lit (.int 69621))) (.var 5)) (.lit (.int 1))]) (.lit (.int 2147483647))), .ex (.app (.var 2) (.bin .mod (.bin .fdiv (.bi .int [.var 3]) (.lit (.int 7))) (.lit (.int 65521))))] []]
/-- one turn of the outer loop -/
theorem draws_out (S : Store) (sc mn : PV) (seed z : Int) (b c d : Option PV) (ds : List Int) (hd : okD ds) (hl : ds.length + 60 < SZ) :
    ∃ (ds' : List Int) (seed' : Int) (b' c' d' : Option PV), okD ds' ∧ ds'.length ≤ ds.length + 60 ∧ turn o (.nm 4) outB (.int z) [some sc, some mn, some (.ref S.length), some (.int seed), b, c, d] (S ++ [.lst (ds.map .int)]) =
      .next [some sc, some mn, some (.ref S.length), some (.int seed'), b', c', d'] (S ++ [.lst (ds'.map .int)]) := by
  rw [turn_nm _ _ _ (by simp)]
  have hmod : ∀ S z, evBin S .mod (.int z) (.int 2147483647) = some (.int (z % 2147483647)) := fun S z => mod_int _ (by decide)
  have hmod2 : ∀ S z, evBin S .mod (.int z) (.int 65521) = some (.int (z % 65521)) := fun S z => mod_int _ (by decide)
  have hdiv : ∀ S z, evBin S .fdiv (.int z) (.int 3) = some (.int (z / 3)) := fun S z => fdiv_int _ (by decide)
  have m1 : ∀ S z, evBin S .mul (.int z) (.int 48271) = some (.int (z * 48271)) := fun S z => mulK S z _ (by decide)
  have m2 : ∀ S z, evBin S .mul (.int z) (.int 16807) = some (.int (z * 16807)) := fun S z => mulK S z _ (by decide)
  let num : Int := if z < 0 then -z else z
  let sd : Int := (seed * 48271 + num + 11) % 2147483647
  have e1 : ∀ k : Env → Store → SOut, True := fun _ => trivial
  have s1 : evS o (.asg (.nm 6) (.bi .abs [.var 4])) [some sc, some mn, some (.ref S.length), some (.int seed), some (.int z), c, d] (S ++ [.lst (ds.map .int)]) = .next [some sc, some mn, some (.ref S.length), some (.int seed), some (.int z), c, some (.int num)] (S ++ [.lst (ds.map .int)]) := by
    simp [asgK_nm, num]
  have s2 : evS o (.asg (.nm 3) (.bin .mod (.bi .int [.bin .add (.bin .add (.bin .mul (.var 3) (.lit (.int 48271))) (.var 6)) (.lit (.int 11))]) (.lit (.int 2147483647)))) [some sc, some mn, some (.ref S.length), some (.int seed), some (.int z), c, some (.int num)] (S ++ [.lst (ds.map .int)]) =
      .next [some sc, some mn, some (.ref S.length), some (.int sd), some (.int z), c, some (.int num)] (S ++ [.lst (ds.map .int)]) := by
    simp [asgK_nm, m1, hmod, sd]
  show ∃ (ds' : List Int) (seed' : Int) (b' c' d' : Option PV), _ ∧ _ ∧ evSs o outB [some sc, some mn, some (.ref S.length), some (.int seed), some (.int z), c, d] (S ++ [.lst (ds.map .int)]) = _
  unfold outB
  by_cases hp : (10 : Int) ^ 18 ≤ num
  · obtain ⟨ds', hd', hl', k', n', e⟩ := draws_in o S sc mn (some (.int sd)) (some (.int z)) c num ds hd hl
    refine ⟨ds', sd, some (.int z), k', n', hd', hl', ?_⟩
    have s3 : evS o (.ifs (.cmp .ge (.var 6) (.bin .pow (.lit (.int 10)) (.lit (.int 18)))) [.for_ (.nm 5) (.rng [.lit (.int 60)]) in60] [.ex (.app (.var 2) (.bin .mod (.bin .fdiv (.bi .int [.bin .add (.bin .mul (.var 3) (.lit (.int 16807))) (.lit (.int 5))]) (.lit (.int 3))) (.lit (.int 65521))))]) [some sc, some mn, some (.ref S.length), some (.int sd), some (.int z), c, some (.int num)] (S ++ [.lst (ds.map .int)]) =
        .next [some sc, some mn, some (.ref S.length), some (.int sd), some (.int z), k', n'] (S ++ [.lst (ds'.map .int)]) := by
      have hc : evE o (.cmp .ge (.var 6) (.bin .pow (.lit (.int 10)) (.lit (.int 18)))) [some sc, some mn, some (.ref S.length), some (.int sd), some (.int z), c, some (.int num)] (S ++ [.lst (ds.map .int)]) = .ok (.bl true) (S ++ [.lst (ds.map .int)]) := by
        simp only [evE_cmp, evE_var, evE_bin, evE_lit, List.getElem?_cons_zero, List.getElem?_cons_succ, Out.bind_ok, pow18, lift_some, cmpK, cmp_ge, decide_eq_true hp, Option.map_some]
      rw [evS_ifs, hc, Out.toS_ok, ifK_true, evSs_cons, for_rng1 (n := 60) (S1 := S ++ [.lst (ds.map .int)]) rfl (by decide)]
      unfold in60
      rw [e]
      rfl
    rw [evSs_cons, s1, SOut.next_andThen, evSs_cons, s2, SOut.next_andThen, evSs_cons, s3]
    rfl
  · have ha : appK o (.bin .mod (.bin .fdiv (.bi .int [.bin .add (.bin .mul (.var 3) (.lit (.int 16807))) (.lit (.int 5))]) (.lit (.int 3))) (.lit (.int 65521))) [some sc, some mn, some (.ref S.length), some (.int sd), some (.int z), c, some (.int num)] (.ref S.length) (S ++ [.lst (ds.map .int)]) = .ok .non (S ++ [.lst (ds.map .int ++ [.int ((sd * 16807 + 5) / 3 % 65521)])]) :=
      app_end (by simp [m2, hdiv, hmod2]) (by rw [List.length_map]; omega)
    rw [map_snoc] at ha
    refine ⟨ds ++ [(sd * 16807 + 5) / 3 % 65521], sd, some (.int z), c, some (.int num), hd.snoc (Int.emod_nonneg _ (by decide)) (Int.emod_lt_of_pos _ (by decide)), by rw [List.length_append]; simp, ?_⟩
    have s3 : evS o (.ifs (.cmp .ge (.var 6) (.bin .pow (.lit (.int 10)) (.lit (.int 18)))) [.for_ (.nm 5) (.rng [.lit (.int 60)]) in60] [.ex (.app (.var 2) (.bin .mod (.bin .fdiv (.bi .int [.bin .add (.bin .mul (.var 3) (.lit (.int 16807))) (.lit (.int 5))]) (.lit (.int 3))) (.lit (.int 65521))))]) [some sc, some mn, some (.ref S.length), some (.int sd), some (.int z), c, some (.int num)] (S ++ [.lst (ds.map .int)]) =
        .next [some sc, some mn, some (.ref S.length), some (.int sd), some (.int z), c, some (.int num)] (S ++ [.lst ((ds ++ [(sd * 16807 + 5) / 3 % 65521]).map .int)]) := by
      have hc : evE o (.cmp .ge (.var 6) (.bin .pow (.lit (.int 10)) (.lit (.int 18)))) [some sc, some mn, some (.ref S.length), some (.int sd), some (.int z), c, some (.int num)] (S ++ [.lst (ds.map .int)]) = .ok (.bl false) (S ++ [.lst (ds.map .int)]) := by
        simp only [evE_cmp, evE_var, evE_bin, evE_lit, List.getElem?_cons_zero, List.getElem?_cons_succ, Out.bind_ok, pow18, lift_some, cmpK, cmp_ge, decide_eq_false hp, Option.map_some]
      rw [evS_ifs, hc, Out.toS_ok, ifK_false, evSs_cons, evS_ex, evE_app]
      rw [show evE o (.var 2) [some sc, some mn, some (.ref S.length), some (.int sd), some (.int z), c, some (.int num)] (S ++ [.lst (ds.map .int)]) = .ok (.ref S.length) (S ++ [.lst (ds.map .int)]) from rfl, Out.bind_ok, ha]
      rfl
    rw [evSs_cons, s1, SOut.next_andThen, evSs_cons, s2, SOut.next_andThen, evSs_cons, s3]
    rfl
theorem draws_ok (S : Store) (ns : List Int) (many : Nat) (hm : many ≤ 100000) : ∃ ds : List Int, ds.length = many ∧ okD ds ∧ ∃ S', evSs o bDraws [some (.lst (ns.map .int)), some (.int many), none, none, none, none, none] S = .ret (.lst (ds.map .int)) (S ++ S') := by
  have e0 : bDraws = [.asg (.nm 2) (.lst true []), .asg (.nm 3) (.lit (.int 7)), .for_ (.nm 4) (.seq (.sl false true (.var 0) (.lit .non) (.lit (.int 63)))) outB, .for_ (.nm 5) (.rng [.var 1]) manyB, .ret (.sl false true (.var 2) (.lit .non) (.var 1))] := rfl
  have s1 : evS o (.asg (.nm 2) (.lst true [])) [some (.lst (ns.map .int)), some (.int many), none, none, none, none, none] S = .next [some (.lst (ns.map .int)), some (.int many), some (.ref S.length), none, none, none, none] (S ++ [.lst (([] : List Int).map .int)]) := by
    simp [lstK, asgK_nm]
  have s2 : evS o (.asg (.nm 3) (.lit (.int 7))) [some (.lst (ns.map .int)), some (.int many), some (.ref S.length), none, none, none, none] (S ++ [.lst (([] : List Int).map .int)]) = .next [some (.lst (ns.map .int)), some (.int many), some (.ref S.length), some (.int 7), none, none, none] (S ++ [.lst (([] : List Int).map .int)]) := by
    simp [asgK_nm]
  have hit : evIt o (.seq (.sl false true (.var 0) (.lit .non) (.lit (.int 63)))) [some (.lst (ns.map .int)), some (.int many), some (.ref S.length), some (.int 7), none, none, none] (S ++ [.lst (([] : List Int).map .int)]) = .ok ((ns.take 63).map .int, none) (S ++ [.lst (([] : List Int).map .int)]) := by
    have hs : ∀ S, evSl S (.lst (ns.map PV.int)) none (some 63) = some (.lst ((ns.take 63).map .int)) := fun S => by
      show some (PV.lst (cut (ns.map PV.int) none (some 63))) = _
      unfold cut clip
      simp [List.map_take, List.take_take]
    simp [hs]
  have key := forL_run (step := turn o (.nm 4) outB) (fun i ρ S' => ∃ (ds : List Int) (seed : Int) (b c d : Option PV), okD ds ∧ ds.length ≤ 60 * i ∧ ρ = [some (.lst (ns.map .int)), some (.int many), some (.ref S.length), some (.int seed), b, c, d] ∧ S' = S ++ [.lst (ds.map .int)])
    ((ns.take 63).map .int) 0 [some (.lst (ns.map .int)), some (.int many), some (.ref S.length), some (.int 7), none, none, none] (S ++ [.lst (([] : List Int).map .int)]) ⟨[], 7, none, none, none, fun d h => absurd h (by simp), by simp, rfl, rfl⟩ ?_
  · obtain ⟨ρ', S', e, ds, seed, b, c, d, hd, hl, rfl, rfl⟩ := key
    have hz : SZ = 16777216 := rfl
    rw [List.length_map, List.length_take] at hl
    have key2 := forL_run (step := turn o (.nm 5) manyB) (fun i ρ S' => ∃ (ds' : List Int) (seed : Int) (b c d : Option PV), okD ds' ∧ ds'.length ≤ ds.length + i ∧ (i ≤ ds'.length ∨ many ≤ ds'.length) ∧ ρ = [some (.lst (ns.map .int)), some (.int many), some (.ref S.length), some (.int seed), b, c, d] ∧ S' = S ++ [.lst (ds'.map .int)])
      (rngL 0 many) 0 _ (S ++ [.lst (ds.map .int)]) ⟨ds, seed, b, c, d, hd, by omega, by omega, rfl, rfl⟩ ?_
    · obtain ⟨ρ', S', e2, ds', seed', b', c', d', hd', hl', hm', rfl, rfl⟩ := key2
      rw [rngL_length] at hm'
      refine ⟨ds'.take many, by rw [List.length_take]; omega, fun x hx => hd' x (List.mem_of_mem_take hx), [.lst (ds'.map .int)], ?_⟩
      rw [e0, evSs_cons, s1, SOut.next_andThen, evSs_cons, s2, SOut.next_andThen, evSs_cons, evS_for, hit, Out.toS_ok, forK, forW_free rfl, e, SOut.next_andThen, evSs_cons, for_rng1 (n := many) (S1 := S ++ [.lst (ds.map .int)]) rfl (by omega), e2, SOut.next_andThen]
      have hs : evSl (S ++ [.lst (ds'.map .int)]) (.ref S.length) none (some (many : Int)) = some (.lst ((ds'.take many).map .int)) := by
        show (listOf (S ++ [.lst (ds'.map .int)]) (.ref S.length)).map (fun xs => PV.lst (cut xs none (some (many : Int)))) = _
        have : listOf (S ++ [.lst (ds'.map .int)]) (.ref S.length) = some (ds'.map .int) := by
          show (match (S ++ [Cell.lst (ds'.map .int)])[S.length]? with | some (.lst xs) => some xs | _ => none) = _
          rw [show (S ++ [Cell.lst (ds'.map .int)])[S.length]? = some (.lst (ds'.map .int)) from by simp]
        rw [this]
        unfold cut clip
        have h0 : ¬ ((many : Int) < 0) := by omega
        simp [List.map_take, List.take_take, h0]
      simp [hs]
    · rintro i x ρ S' hx ⟨ds1, sd1, b1, c1, d1, hd1, hl1, hm1, rfl, rfl⟩
      obtain ⟨hi, rfl⟩ := rngL_at hx
      rw [turn_nm _ _ _ (by simp)]
      have hlen : evBI (S ++ [.lst (ds1.map .int)]) .len [.ref S.length] = some (.int ds1.length) := by
        rw [len_ref _ (xs := ds1.map .int) (by simp)]
        simp
      have hmod : ∀ S z, evBin S .mod (.int z) (.int 2147483647) = some (.int (z % 2147483647)) := fun S z => mod_int _ (by decide)
      have hmod2 : ∀ S z, evBin S .mod (.int z) (.int 65521) = some (.int (z % 65521)) := fun S z => mod_int _ (by decide)
      have hdiv : ∀ S z, evBin S .fdiv (.int z) (.int 7) = some (.int (z / 7)) := fun S z => fdiv_int _ (by decide)
      have m1 : ∀ S z, evBin S .mul (.int z) (.int 69621) = some (.int (z * 69621)) := fun S z => mulK S z _ (by decide)
      by_cases hp : (ds1.length : Int) < many
      · have ha : appK o (.bin .mod (.bin .fdiv (.bi .int [.var 3]) (.lit (.int 7))) (.lit (.int 65521))) [some (.lst (ns.map .int)), some (.int many), some (.ref S.length), some (.int ((sd1 * 69621 + (i : Int) + 1) % 2147483647)), b1, some (.int i), d1] (.ref S.length) (S ++ [.lst (ds1.map .int)]) = .ok .non (S ++ [.lst (ds1.map .int ++ [.int ((sd1 * 69621 + (i : Int) + 1) % 2147483647 / 7 % 65521)])]) :=
          app_end (by simp [hdiv, hmod2]) (by rw [List.length_map]; omega)
        rw [map_snoc] at ha
        refine ⟨_, S ++ [.lst ((ds1 ++ [(sd1 * 69621 + (i : Int) + 1) % 2147483647 / 7 % 65521]).map .int)], .inl ?_, ds1 ++ [(sd1 * 69621 + (i : Int) + 1) % 2147483647 / 7 % 65521], (sd1 * 69621 + (i : Int) + 1) % 2147483647, b1, some (.int i), d1, hd1.snoc (Int.emod_nonneg _ (by decide)) (Int.emod_lt_of_pos _ (by decide)), by rw [List.length_append]; simp; omega, by rw [List.length_append]; simp; omega, rfl, rfl⟩
        simp [manyB, hlen, cmpK, hp, asgK_nm, m1, hmod, ha]
      · refine ⟨_, S ++ [.lst (ds1.map .int)], .inl ?_, ds1, sd1, b1, some (.int i), d1, hd1, by omega, by omega, rfl, rfl⟩
        simp [manyB, hlen, cmpK, hp]
  · rintro i x ρ S' hx ⟨ds1, sd1, b1, c1, d1, hd1, hl1, rfl, rfl⟩
    have hz : SZ = 16777216 := rfl
    have hi : i < 63 := by
      have := (List.getElem?_eq_some_iff.mp hx).1
      rw [List.length_map, List.length_take] at this
      omega
    rw [List.getElem?_map] at hx
    obtain ⟨z, hz2, rfl⟩ := Option.map_eq_some_iff.mp hx
    obtain ⟨ds', sd', b', c', d', hd', hl', e⟩ := draws_out o S (.lst (ns.map .int)) (.int many) sd1 z b1 c1 d1 ds1 hd1 (by omega)
    exact ⟨_, _, .inl e, ds', sd', b', c', d', hd', by omega, rfl, rfl⟩
theorem frz_ints (S : Store) (n0 : Nat) (ds : List Int) : frz S n0 60 (.lst (ds.map .int)) = some (.lst (ds.map .int)) := by
  have : ∀ l : List Int, frzL (frz S n0 59) (l.map PV.int) = some (l.map .int) := by
    intro l
    induction l with
    | nil => rfl
    | cons x r ih =>
      rw [List.map_cons]
      unfold frzL
      rw [ih]
      rfl
  show (frzL (frz S n0 59) (ds.map PV.int)).map PV.lst = _
  rw [this]
  rfl
/-- what _law_draws comes to -/
theorem draws_fin (S : Store) (ns : List Int) (many : Nat) (hm : many ≤ 100000) : ∃ ds : List Int, ds.length = many ∧ okD ds ∧ fin true S (evSs o bDraws [some (.lst (ns.map .int)), some (.int many), none, none, none, none, none] S) = .ok (.lst (ds.map .int)) S := by
  obtain ⟨ds, h1, h2, S', e⟩ := draws_ok o S ns many hm
  refine ⟨ds, h1, h2, ?_⟩
  rw [e]
  show close true S (.lst (ds.map .int)) (S ++ S') = _
  unfold close
  rw [if_pos rfl, frz_ints]
  simp
end
end MK

set_option linter.all false
set_option autoImplicit false
set_option maxRecDepth 100000
set_option maxHeartbeats 4000000
/-! MkOk: expressions, part by part; the store stays. Plain Lean. -/
namespace MK
section
variable {o : Orc} {ρ : Env} {S : Store}
theorem var_ok {i : Nat} {v : PV} (h : ρ[i]? = some (some v)) : evE o (.var i) ρ S = .ok v S := by rw [evE_var, h]
theorem con_ok (v : PV) : evE o (.lit v) ρ S = .ok v S := rfl
theorem bin_ok {op : BO} {a b : C} {x y z : PV} (ha : evE o a ρ S = .ok x S) (hb : evE o b ρ S = .ok y S) (h : evBin S op x y = some z) : evE o (.bin op a b) ρ S = .ok z S := by
  rw [evE_bin, ha, Out.bind_ok, hb, Out.bind_ok, h, lift_some]
theorem cmp_ok {op : CO} {a b : C} {x y : PV} {z : Bool} (ha : evE o a ρ S = .ok x S) (hb : evE o b ρ S = .ok y S) (h : evCmp S op x y = some z) : evE o (.cmp op a b) ρ S = .ok (.bl z) S := by
  rw [evE_cmp, ha, Out.bind_ok, hb, Out.bind_ok, cmpK, h]; rfl
theorem cmp2b_ok {p q : CO} {a b c : C} {x y z : PV} {b1 b2 : Bool} (ha : evE o a ρ S = .ok x S) (hb : evE o b ρ S = .ok y S) (h1 : evCmp S p x y = some b1) (hc : evE o c ρ S = .ok z S) (h2 : evCmp S q y z = some b2) : evE o (.cmp2 p q a b c) ρ S = .ok (.bl (b1 && b2)) S := by
  rw [evE_cmp2, ha, Out.bind_ok, hb, Out.bind_ok, cmp2_ok o ρ S h1 hc h2]
theorem ix_ok {a b : C} {x y z : PV} (ha : evE o a ρ S = .ok x S) (hb : evE o b ρ S = .ok y S) (h : evIx S x y = some z) : evE o (.ix a b) ρ S = .ok z S := by
  rw [evE_ix, ha, Out.bind_ok, hb, Out.bind_ok, h, lift_some]
theorem es0_ok : evEs o [] ρ S = .ok [] S := rfl
theorem es_ok {c : C} {cs : List C} {v : PV} {vs : List PV} (h : evE o c ρ S = .ok v S) (hs : evEs o cs ρ S = .ok vs S) : evEs o (c :: cs) ρ S = .ok (v :: vs) S := by
  rw [evEs_cons, h, Out.bind_ok, hs, Out.bind_ok]
theorem es1_ok {c : C} {v : PV} (h : evE o c ρ S = .ok v S) : evEs o [c] ρ S = .ok [v] S := es_ok h es0_ok
theorem es2_ok {c d : C} {v w : PV} (h : evE o c ρ S = .ok v S) (h2 : evE o d ρ S = .ok w S) : evEs o [c, d] ρ S = .ok [v, w] S := es_ok h (es1_ok h2)
theorem bi_ok {b : BI} {es : List C} {vs : List PV} {z : PV} (h : evEs o es ρ S = .ok vs S) (hb : evBI S b vs = some z) : evE o (.bi b es) ρ S = .ok z S := by
  rw [evE_bi, h, Out.bind_ok, hb, lift_some]
theorem bi1_ok {b : BI} {e : C} {v z : PV} (h : evE o e ρ S = .ok v S) (hb : evBI S b [v] = some z) : evE o (.bi b [e]) ρ S = .ok z S := bi_ok (es1_ok h) hb
theorem bm_ok {m : BM} {r : C} {es : List C} {s : List Nat} {vs : List PV} {z : PV} (hr : evE o r ρ S = .ok (.str s) S) (h : evEs o es ρ S = .ok vs S) (hb : evBM S m (.str s) vs = some z) : evE o (.bm m r es) ρ S = .ok z S := by
  rw [evE_bm, hr, Out.bind_ok, bmK_str, h, Out.bind_ok, hb, lift_some]
theorem call_ok {f : Nat} {es : List C} {vs : List PV} {r : Out PV} (h : evEs o es ρ S = .ok vs S) (hc : o.call f vs S = r) : evE o (.call f es) ρ S = r := by
  rw [evE_call, h, Out.bind_ok, hc]
theorem sl_to_ok {a h : C} {x z : PV} {k : Int} (ha : evE o a ρ S = .ok x S) (hh : evE o h ρ S = .ok (.int k) S) (hs : evSl S x none (some k) = some z) : evE o (.sl false true a (.lit .non) h) ρ S = .ok z S := by
  simp only [evE_sl, ha, hh, Out.bind_ok, Bool.false_eq_true, if_false, if_true, partI_int, hs, lift_some]
theorem sl_from_ok {a l : C} {x z : PV} {k : Int} (ha : evE o a ρ S = .ok x S) (hh : evE o l ρ S = .ok (.int k) S) (hs : evSl S x (some k) none = some z) : evE o (.sl true false a l (.lit .non)) ρ S = .ok z S := by
  simp only [evE_sl, ha, hh, Out.bind_ok, Bool.false_eq_true, if_false, if_true, partI_int, hs, lift_some]
theorem sl_mid_ok {a l h : C} {x z : PV} {j k : Int} (ha : evE o a ρ S = .ok x S) (hl : evE o l ρ S = .ok (.int j) S) (hh : evE o h ρ S = .ok (.int k) S) (hs : evSl S x (some j) (some k) = some z) : evE o (.sl true true a l h) ρ S = .ok z S := by
  simp only [evE_sl, ha, hl, hh, Out.bind_ok, if_true, partI_int, hs, lift_some]
theorem ite_ok {t a b : C} {c : Bool} {r : Out PV} (ht : evE o t ρ S = .ok (.bl c) S) (h1 : c = true → evE o a ρ S = r) (h2 : c = false → evE o b ρ S = r) : evE o (.ite t a b) ρ S = r := by
  rw [evE_ite, ht, Out.bind_ok]
  cases c with
  | true => rw [iteK_true, h1 rfl]
  | false => rw [iteK_false, h2 rfl]
theorem or2_ok {a b : C} {x y : Bool} (ha : evE o a ρ S = .ok (.bl x) S) (hb : x = false → evE o b ρ S = .ok (.bl y) S) : evE o (.or [a, b]) ρ S = .ok (.bl (x || y)) S := by
  rw [evE_or, evOr_cons, ha, Out.bind_ok]
  exact or_ok fun h => by rw [evOr_one]; exact hb h
theorem and2_ok {a b : C} {x y : Bool} (ha : evE o a ρ S = .ok (.bl x) S) (hb : x = true → evE o b ρ S = .ok (.bl y) S) : evE o (.and [a, b]) ρ S = .ok (.bl (x && y)) S := by
  rw [evE_and, evAnd_cons, ha, Out.bind_ok]
  exact and_ok fun h => by rw [evAnd_one]; exact hb h
theorem lst1_ok {e : C} {v : PV} (h : evE o e ρ S = .ok v S) : evE o (.lst false [e]) ρ S = .ok (.lst [v]) S := by
  rw [evE_lst, es1_ok h, Out.bind_ok]; rfl
/-! statements -/
theorem asg_ok {e : C} {i : Nat} {v : PV} (he : evE o e ρ S = .ok v S) (hi : i < ρ.length) : evS o (.asg (.nm i) e) ρ S = .next (ρ.set i (some v)) S := by
  rw [evS_asg, he, Out.toS_ok, asgK_nm _ hi]
theorem asg2_ok {e : C} {i j : Nat} {v w : PV} (he : evE o e ρ S = .ok (.tup [v, w]) S) (hi : i < ρ.length) (hj : j < ρ.length) : evS o (.asg (.tp [.nm i, .nm j]) e) ρ S = .next ((ρ.set i (some v)).set j (some w)) S := by
  rw [evS_asg, he, Out.toS_ok, asgK_tp2 _ hi hj]
theorem ifs_no {c : C} {a : List MK.S} (h : evE o c ρ S = .ok (.bl false) S) : evS o (.ifs c a []) ρ S = .next ρ S := by
  rw [evS_ifs, h, Out.toS_ok, ifK_false, evSs_nil]
theorem seq_ok {s : MK.S} {ss : List MK.S} {ρ' : Env} {S' : Store} {r : SOut} (h : evS o s ρ S = .next ρ' S') (hs : evSs o ss ρ' S' = r) : evSs o (s :: ss) ρ S = r := by
  rw [evSs_cons, h, SOut.next_andThen, hs]
theorem last_ok {s : MK.S} {r : SOut} (h : evS o s ρ S = r) : evSs o [s] ρ S = r := by
  rw [evSs_cons, h]
  cases r <;> rfl
end
/-- a for over a range, with an invariant on the names; the store stays -/
theorem for_inv {o : Orc} {e : C} {ρ : Env} {S : Store} {n i : Nat} {b : List MK.S} (Inv : Nat → Env → Prop) (he : evE o e ρ S = .ok (.int (n : Int)) S) (hn : n < 1000000000) (h0 : Inv 0 ρ)
    (hi : ∀ k ρ, k < n → Inv k ρ → i < ρ.length ∧ ∃ ρ', evSs o b (ρ.set i (some (.int (k : Int)))) S = .next ρ' S ∧ Inv (k + 1) ρ') : ∃ ρ', evS o (.for_ (.nm i) (.rng [e]) b) ρ S = .next ρ' S ∧ Inv n ρ' := by
  have key := forL_run (step := turn o (.nm i) b) (fun k ρ S' => S' = S ∧ Inv k ρ) (rngL 0 n) 0 ρ S ⟨rfl, h0⟩ ?_
  · obtain ⟨ρ', S', e1, rfl, h⟩ := key
    rw [rngL_length, Nat.zero_add] at h
    exact ⟨ρ', by rw [for_rng1 he hn, e1], h⟩
  · rintro k x ρ S' hx ⟨rfl, h⟩
    obtain ⟨hk, rfl⟩ := rngL_at hx
    rw [Nat.zero_add] at h ⊢
    obtain ⟨hl, ρ', e1, h'⟩ := hi k ρ hk h
    rw [Int.zero_add]
    exact ⟨ρ', S', .inl (by rw [turn_nm _ _ _ hl, e1]), rfl, h'⟩
theorem for_inv2 {o : Orc} {d e : C} {ρ : Env} {S : Store} {m n i : Nat} {b : List MK.S} (Inv : Nat → Env → Prop) (hd : evE o d ρ S = .ok (.int (m : Int)) S) (he : evE o e ρ S = .ok (.int (n : Int)) S) (hm : m < 1000000000) (hn : n < 1000000000) (h0 : Inv m ρ)
    (hi : ∀ k ρ, m ≤ k → k < n → Inv k ρ → i < ρ.length ∧ ∃ ρ', evSs o b (ρ.set i (some (.int (k : Int)))) S = .next ρ' S ∧ Inv (k + 1) ρ') : ∃ ρ', evS o (.for_ (.nm i) (.rng [d, e]) b) ρ S = .next ρ' S ∧ Inv (m + (n - m)) ρ' := by
  have key := forL_run (step := turn o (.nm i) b) (fun k ρ S' => S' = S ∧ Inv (m + k) ρ) (rngL m (n - m)) 0 ρ S ⟨rfl, h0⟩ ?_
  · obtain ⟨ρ', S', e1, rfl, h⟩ := key
    rw [rngL_length, Nat.zero_add] at h
    exact ⟨ρ', by rw [for_rng2 hd he hm hn, e1], h⟩
  · rintro k x ρ S' hx ⟨rfl, h⟩
    obtain ⟨hk, rfl⟩ := rngL_at hx
    rw [Nat.zero_add] at h ⊢
    obtain ⟨hl, ρ', e1, h'⟩ := hi (m + k) ρ (by omega) (by omega) h
    rw [show ((m : Int) + (k : Int)) = ((m + k : Nat) : Int) from by push_cast; rfl]
    exact ⟨ρ', S', .inl (by rw [turn_nm _ _ _ hl, e1]), rfl, h'⟩
/-! values that are the same -/
mutual
theorem eqv_refl : ∀ (v : PV) (n : Nat), v.plain n = true → PV.eqv v v = true
  | .non, _, _ => rfl
  | .bl a, _, _ => by simp [PV.eqv]
  | .int a, _, _ => by simp [PV.eqv]
  | .str a, _, _ => by simp [PV.eqv]
  | .tup xs, 0, h => by simp [PV.plain] at h
  | .lst xs, 0, h => by simp [PV.plain] at h
  | .tup xs, n + 1, h => by
    unfold PV.eqv
    exact eqvAll_refl xs n (by simpa [PV.plain] using h)
  | .lst xs, n + 1, h => by
    unfold PV.eqv
    exact eqvAll_refl xs n (by simpa [PV.plain] using h)
  | .ref _, n, h => by cases n <;> simp [PV.plain] at h
  | .ty _, n, h => by cases n <;> simp [PV.plain] at h
theorem eqvAll_refl : ∀ (v : List PV) (n : Nat), PV.plainAll n v = true → PV.eqvAll v v = true
  | [], _, _ => rfl
  | x :: xs, n, h => by
    unfold PV.plainAll at h
    rw [Bool.and_eq_true] at h
    unfold PV.eqvAll
    rw [eqv_refl x n h.1, eqvAll_refl xs n h.2]
    rfl
end
theorem cmp_ne_same {S : Store} {v : PV} (h : v.plain DEEP = true) : evCmp S .ne v v = some false := by
  show (if v.plain DEEP && v.plain DEEP then some (!PV.eqv v v) else none) = _
  rw [h, eqv_refl v DEEP h]
  rfl
theorem cmp_eq_same {S : Store} {v : PV} (h : v.plain DEEP = true) : evCmp S .eq v v = some true := by
  show (if v.plain DEEP && v.plain DEEP then some (PV.eqv v v) else none) = _
  rw [h, eqv_refl v DEEP h]
  rfl
theorem plain_strs (n : Nat) : ∀ l : List (List Nat), PV.plainAll n (l.map .str) = true
  | [] => by simp [PV.plainAll]
  | x :: r => by
    rw [List.map_cons]
    unfold PV.plainAll
    rw [plain_strs n r]
    cases n <;> rfl
theorem plain_ints (n : Nat) : ∀ l : List Int, PV.plainAll n (l.map .int) = true
  | [] => by simp [PV.plainAll]
  | x :: r => by
    rw [List.map_cons]
    unfold PV.plainAll
    rw [plain_ints n r]
    cases n <;> rfl
end MK

set_option linter.all false
set_option autoImplicit false
set_option maxRecDepth 100000
set_option maxHeartbeats 4000000
/-! MkOk2: more of the same: numbers of nature, draws, loops over lists. -/
namespace MK.N
open MK
section
variable {ρ : Env} {S : Store} {o : Orc}
theorem add_nat (S : Store) (a b : Nat) : evBin S .add (.int (a : Int)) (.int (b : Int)) = some (.int ((a + b : Nat) : Int)) := rfl
theorem add_one (S : Store) (a : Nat) : evBin S .add (.int (a : Int)) (.int 1) = some (.int ((a + 1 : Nat) : Int)) := rfl
theorem mod_nat (S : Store) (a b : Nat) (h : 0 < b) : evBin S .mod (.int (a : Int)) (.int (b : Int)) = some (.int ((a % b : Nat) : Int)) := by
  rw [mod_int _ (by omega)]; rfl
theorem fdiv_nat (S : Store) (a b : Nat) (h : 0 < b ∧ b < 1073741824) : evBin S .fdiv (.int (a : Int)) (.int (b : Int)) = some (.int ((a / b : Nat) : Int)) := by
  rw [fdiv_int _ (by omega)]; rfl
theorem mul_nat (S : Store) (a b : Nat) (h : a < 1000) : evBin S .mul (.int (a : Int)) (.int (b : Int)) = some (.int ((a * b : Nat) : Int)) := by
  rw [mul_int _ (by unfold mulOk; simp; omega)]
  congr 2
theorem l_nat (o : Orc) (n : Nat) (z : Int) (h : z = (n : Int)) : evE o (.lit (.int z)) ρ S = .ok (.int (n : Int)) S := by rw [h]; rfl
theorem min_nat (S : Store) (i j : Nat) : evBI S .min2 [.int (i : Int), .int (j : Int)] = some (.int ((min i j : Nat) : Int)) := by rw [min_int]; congr 2; omega
theorem max_nat (S : Store) (i j : Nat) : evBI S .max2 [.int (i : Int), .int (j : Int)] = some (.int ((max i j : Nat) : Int)) := by rw [max_int]; congr 2; omega
theorem set_cut {α : Type} (l : List α) (p : Nat) (c : α) (h : p < l.length) : l.set p c = l.take p ++ [c] ++ l.drop (p + 1) := by
  rw [List.set_eq_take_append_cons_drop, if_pos h, List.append_assoc]
  rfl
theorem set_cut2 {α : Type} (l : List α) (i j : Nat) (x y : α) (hij : i < j) (hj : j < l.length) : (l.set i y).set j x = l.take i ++ [y] ++ (l.take j).drop (i + 1) ++ [x] ++ l.drop (j + 1) := by
  rw [set_cut _ _ _ (by rw [List.length_set]; exact hj), List.take_set, set_cut _ _ _ (by rw [List.length_take]; omega), List.take_take, Nat.min_eq_left (by omega), List.drop_set_of_lt (by omega)]
/-- a draw: a number of nature -/
theorem draw_at {o : Orc} {e : C} {k i m : Nat} {ds : List Int} (h1 : ρ[i]? = some (some (.lst (ds.map .int)))) (hd : okD ds) (hl : ds.length = m) (he : evE o e ρ S = .ok (.int (k : Int)) S) (hk : k < m) : ∃ d : Nat, evE o (.bi .int [.ix (.var i) e]) ρ S = .ok (.int (d : Int)) S := by
  have hk2 : k < ds.length := by omega
  have h0 := (hd ds[k] (List.getElem_mem hk2)).1
  refine ⟨ds[k].toNat, ?_⟩
  rw [Int.toNat_of_nonneg h0]
  refine bi1_ok (ix_ok (var_ok h1) he (z := .int ds[k]) (ixs_lst ?_)) (int_int _ _)
  rw [List.getElem?_map, List.getElem?_eq_getElem hk2]
  rfl
/-- e % m, of a number of nature -/
theorem mod_ok {e : C} {x m : Nat} {z : Int} (hz : z = (m : Int)) (h : evE o e ρ S = .ok (.int (x : Int)) S) (hm : 0 < m) : ∃ k : Nat, k < m ∧ evE o (.bin .mod e (.lit (.int z))) ρ S = .ok (.int (k : Int)) S :=
  ⟨x % m, Nat.mod_lt _ hm, bin_ok h (l_nat o m z hz) (mod_nat S x m hm)⟩
theorem modE_ok {e f : C} {x m : Nat} (h : evE o e ρ S = .ok (.int (x : Int)) S) (hf : evE o f ρ S = .ok (.int (m : Int)) S) (hm : 0 < m) : ∃ k : Nat, k < m ∧ evE o (.bin .mod e f) ρ S = .ok (.int (k : Int)) S :=
  ⟨x % m, Nat.mod_lt _ hm, bin_ok h hf (mod_nat S x m hm)⟩
end
/-- a for over a list's items, with an invariant on the names; the store stays -/
theorem for_seq_inv {o : Orc} {e : C} {ρ : Env} {S : Store} {i : Nat} {xs : List PV} {b : List MK.S} (Inv : Nat → Env → Prop) (he : evE o e ρ S = .ok (.lst xs) S) (h0 : Inv 0 ρ)
    (hi : ∀ k x ρ, xs[k]? = some x → Inv k ρ → i < ρ.length ∧ ∃ ρ', evSs o b (ρ.set i (some x)) S = .next ρ' S ∧ Inv (k + 1) ρ') : ∃ ρ', evS o (.for_ (.nm i) (.seq e) b) ρ S = .next ρ' S ∧ Inv xs.length ρ' := by
  have key := forL_run (step := turn o (.nm i) b) (fun k ρ S' => S' = S ∧ Inv k ρ) xs 0 ρ S ⟨rfl, h0⟩ ?_
  · obtain ⟨ρ', S', e1, rfl, h⟩ := key
    rw [Nat.zero_add] at h
    refine ⟨ρ', ?_, h⟩
    rw [evS_for, evIt_seq, he, Out.bind_ok, walk_lst, lift_some, Out.toS_ok, forK, forW_free rfl, e1]
  · rintro k x ρ S' hx ⟨rfl, h⟩
    rw [Nat.zero_add] at h ⊢
    obtain ⟨hl, ρ', e1, h'⟩ := hi k x ρ hx h
    exact ⟨ρ', S', .inl (by rw [turn_nm _ _ _ hl, e1]), rfl, h'⟩
end MK.N
namespace MK.N
open MK
theorem ifs_yes {o : Orc} {ρ : Env} {S : Store} {c : C} {a b : List MK.S} {r : SOut} (h : evE o c ρ S = .ok (.bl true) S) (hr : evSs o a ρ S = r) : evS o (.ifs c a b) ρ S = r := by
  rw [evS_ifs, h, Out.toS_ok, ifK_true, hr]
theorem lst_ok {o : Orc} {es : List C} {ρ : Env} {S : Store} {vs : List PV} (h : evEs o es ρ S = .ok vs S) (hl : vs.length ≤ SZ) : evE o (.lst false es) ρ S = .ok (.lst vs) S := by
  rw [evE_lst, h, Out.bind_ok]
  unfold lstK
  rw [if_pos hl, if_neg (by decide)]
/-- a comprehension over a list: item by item -/
theorem lc_ok {o : Orc} {ρ : Env} {S : Store} {i : Nat} {e elt : C} {α : Type} {l : List α} (g h : α → PV) (he : evE o e ρ S = .ok (.lst (l.map g)) S) (hl : l.length ≤ SZ) (hi : i < ρ.length)
    (hb : ∀ a ∈ l, evE o elt (ρ.set i (some (g a))) S = .ok (h a) S) : evE o (.lc false [i] (.nm i) (.seq e) [] elt) ρ S = .ok (.lst (l.map h)) S := by
  rw [evE_lc, evIt_seq, he, Out.bind_ok, walk_lst, lift_some, Out.bind_ok]
  unfold lcK
  rw [compL_map g h S l [] fun a ha => ?_]
  · rw [Out.bind_ok, lcE, if_pos (by rw [List.length_map]; exact hl), if_neg (by decide), List.nil_append]
  · refine cturn_ok (ρ' := ρ.set i (some (g a))) ?_ (hb a ha) rfl
    show (if i < (ρ.set i none).length then some ((ρ.set i none).set i (some (g a))) else none) = _
    rw [if_pos (by rw [List.length_set]; exact hi), List.set_set]
end MK.N

set_option linter.all false
set_option autoImplicit false
set_option maxRecDepth 100000
set_option maxHeartbeats 4000000
/-! MkAuto: the evaluator run step by step, the store going along; the tactic ev. Plain Lean. -/
namespace MK.A
open MK
section
variable {o : Orc} {ρ : Env} {S S1 S2 S3 : Store}
theorem gvar {i : Nat} {v : PV} (h : ρ[i]? = some (some v)) : evE o (.var i) ρ S = .ok v S := by rw [evE_var, h]
theorem glit (v : PV) : evE o (.lit v) ρ S = .ok v S := rfl
theorem ggl (v : PV) : evE o (.gl v) ρ S = .ok v S := rfl
theorem gnil : evEs o [] ρ S = .ok [] S := rfl
theorem gcons {c : C} {cs : List C} {v : PV} {vs : List PV} (h : evE o c ρ S = .ok v S1) (hs : evEs o cs ρ S1 = .ok vs S2) : evEs o (c :: cs) ρ S = .ok (v :: vs) S2 := by
  rw [evEs_cons, h, Out.bind_ok, hs, Out.bind_ok]
theorem gtup {es : List C} {vs : List PV} (h : evEs o es ρ S = .ok vs S1) (hl : vs.length ≤ SZ) : evE o (.tup es) ρ S = .ok (.tup vs) S1 := by
  rw [evE_tup, h, Out.bind_ok, tupK, if_pos hl]
theorem glst {es : List C} {vs : List PV} (h : evEs o es ρ S = .ok vs S1) (hl : vs.length ≤ SZ) : evE o (.lst false es) ρ S = .ok (.lst vs) S1 := by
  rw [evE_lst, h, Out.bind_ok, lstK, if_pos hl]; rfl
theorem gown {es : List C} {vs : List PV} (h : evEs o es ρ S = .ok vs S1) (hl : vs.length ≤ SZ) : evE o (.lst true es) ρ S = .ok (.ref S1.length) (S1 ++ [.lst vs]) := by
  rw [evE_lst, h, Out.bind_ok, lstK, if_pos hl]; rfl
theorem gbin {op : BO} {a b : C} {x y z : PV} (ha : evE o a ρ S = .ok x S1) (hb : evE o b ρ S1 = .ok y S2) (h : evBin S2 op x y = some z) : evE o (.bin op a b) ρ S = .ok z S2 := by
  rw [evE_bin, ha, Out.bind_ok, hb, Out.bind_ok, h, lift_some]
theorem gneg {a : C} {i : Int} (ha : evE o a ρ S = .ok (.int i) S1) : evE o (.neg a) ρ S = .ok (.int (-i)) S1 := by
  rw [evE_neg, ha, Out.bind_ok, negK_int]
theorem gcmp {op : CO} {a b : C} {x y : PV} {z : Bool} (ha : evE o a ρ S = .ok x S1) (hb : evE o b ρ S1 = .ok y S2) (h : evCmp S2 op x y = some z) : evE o (.cmp op a b) ρ S = .ok (.bl z) S2 := by
  rw [evE_cmp, ha, Out.bind_ok, hb, Out.bind_ok, cmpK, h]; rfl
theorem gcmp2 {p q : CO} {a b c : C} {x y z : PV} {b1 b2 : Bool} (ha : evE o a ρ S = .ok x S) (hb : evE o b ρ S = .ok y S) (h1 : evCmp S p x y = some b1) (hc : evE o c ρ S = .ok z S) (h2 : evCmp S q y z = some b2) : evE o (.cmp2 p q a b c) ρ S = .ok (.bl (b1 && b2)) S := cmp2b_ok ha hb h1 hc h2
theorem gnot {a : C} {x : Bool} (ha : evE o a ρ S = .ok (.bl x) S1) : evE o (.not a) ρ S = .ok (.bl (!x)) S1 := by
  show (evE o a ρ S).bind _ = _
  rw [ha]; rfl
theorem gand1 {c : C} {r : Out PV} (h : evE o c ρ S = r) : evE o (.and [c]) ρ S = r := h
theorem gand_t {c d : C} {cs : List C} {x : Bool} {r : Out PV} (h : evE o c ρ S = .ok (.bl x) S1) (hx : x = true) (hr : evE o (.and (d :: cs)) ρ S1 = r) : evE o (.and (c :: d :: cs)) ρ S = r := by
  subst hx
  rw [evE_and, evAnd_cons, h, Out.bind_ok, andK_true]; exact hr
theorem gand_f {c d : C} {cs : List C} {x : Bool} (h : evE o c ρ S = .ok (.bl x) S1) (hx : x = false) : evE o (.and (c :: d :: cs)) ρ S = .ok (.bl false) S1 := by
  subst hx
  rw [evE_and, evAnd_cons, h, Out.bind_ok, andK_false]
theorem gor1 {c : C} {r : Out PV} (h : evE o c ρ S = r) : evE o (.or [c]) ρ S = r := h
theorem gor_f {c d : C} {cs : List C} {x : Bool} {r : Out PV} (h : evE o c ρ S = .ok (.bl x) S1) (hx : x = false) (hr : evE o (.or (d :: cs)) ρ S1 = r) : evE o (.or (c :: d :: cs)) ρ S = r := by
  subst hx
  rw [evE_or, evOr_cons, h, Out.bind_ok, orK_false]; exact hr
theorem gor_t {c d : C} {cs : List C} {x : Bool} (h : evE o c ρ S = .ok (.bl x) S1) (hx : x = true) : evE o (.or (c :: d :: cs)) ρ S = .ok (.bl true) S1 := by
  subst hx
  rw [evE_or, evOr_cons, h, Out.bind_ok]; rfl
/-- and, or of two, whatever they are, the store as it is -/
theorem gand2 {a b : C} {x y : Bool} (ha : evE o a ρ S = .ok (.bl x) S) (hb : x = true → evE o b ρ S = .ok (.bl y) S) : evE o (.and [a, b]) ρ S = .ok (.bl (x && y)) S := and2_ok ha hb
theorem gite_t {t a b : C} {x : Bool} {r : Out PV} (h : evE o t ρ S = .ok (.bl x) S1) (hx : x = true) (hr : evE o a ρ S1 = r) : evE o (.ite t a b) ρ S = r := by
  subst hx
  rw [evE_ite, h, Out.bind_ok, iteK_true, hr]
theorem gite_f {t a b : C} {x : Bool} {r : Out PV} (h : evE o t ρ S = .ok (.bl x) S1) (hx : x = false) (hr : evE o b ρ S1 = r) : evE o (.ite t a b) ρ S = r := by
  subst hx
  rw [evE_ite, h, Out.bind_ok, iteK_false, hr]
theorem gix {a b : C} {x y z : PV} (ha : evE o a ρ S = .ok x S1) (hb : evE o b ρ S1 = .ok y S2) (h : evIx S2 x y = some z) : evE o (.ix a b) ρ S = .ok z S2 := by
  rw [evE_ix, ha, Out.bind_ok, hb, Out.bind_ok, h, lift_some]
theorem gslf {a l : C} {x z : PV} {k : Int} (ha : evE o a ρ S = .ok x S1) (hh : evE o l ρ S1 = .ok (.int k) S2) (hs : evSl S2 x (some k) none = some z) : evE o (.sl true false a l (.lit .non)) ρ S = .ok z S2 := by
  show (evE o a ρ S).bind _ = _
  simp only [ha, hh, Out.bind_ok, Bool.false_eq_true, if_false, if_true, partI_int, hs, lift_some]
theorem gslt {a h : C} {x z : PV} {k : Int} (ha : evE o a ρ S = .ok x S1) (hh : evE o h ρ S1 = .ok (.int k) S2) (hs : evSl S2 x none (some k) = some z) : evE o (.sl false true a (.lit .non) h) ρ S = .ok z S2 := by
  show (evE o a ρ S).bind _ = _
  simp only [ha, hh, Out.bind_ok, Bool.false_eq_true, if_false, if_true, partI_int, hs, lift_some]
theorem gslm {a l h : C} {x z : PV} {j k : Int} (ha : evE o a ρ S = .ok x S1) (hl : evE o l ρ S1 = .ok (.int j) S2) (hh : evE o h ρ S2 = .ok (.int k) S3) (hs : evSl S3 x (some j) (some k) = some z) : evE o (.sl true true a l h) ρ S = .ok z S3 := by
  show (evE o a ρ S).bind _ = _
  simp only [ha, hl, hh, Out.bind_ok, if_true, partI_int, hs, lift_some]
theorem gcall {f : Nat} {es : List C} {vs : List PV} {r : Out PV} (h : evEs o es ρ S = .ok vs S1) (hc : o.call f vs S1 = r) : evE o (.call f es) ρ S = r := by
  rw [evE_call, h, Out.bind_ok, hc]
theorem gbi {b : BI} {es : List C} {vs : List PV} {z : PV} (h : evEs o es ρ S = .ok vs S1) (hb : evBI S1 b vs = some z) : evE o (.bi b es) ρ S = .ok z S1 := by
  rw [evE_bi, h, Out.bind_ok, hb, lift_some]
theorem gbm {m : BM} {r : C} {es : List C} {s : List Nat} {vs : List PV} {z : PV} (hr : evE o r ρ S = .ok (.str s) S1) (h : evEs o es ρ S1 = .ok vs S2) (hb : evBM S2 m (.str s) vs = some z) : evE o (.bm m r es) ρ S = .ok z S2 := by
  rw [evE_bm, hr, Out.bind_ok, bmK_str, h, Out.bind_ok, hb, lift_some]
theorem gisi {a : C} {t : TyN} {x : PV} {b : Bool} (h : evE o a ρ S = .ok x S1) (hb : isTy S1 t x = some b) : evE o (.isi a t) ρ S = .ok (.bl b) S1 := by
  show (evE o a ρ S).bind _ = _
  rw [h, Out.bind_ok, hb]; rfl
theorem gapp {r a : C} {k : Nat} {xs : List PV} {y : PV} (hr : evE o r ρ S = .ok (.ref k) S1) (hk : S1[k]? = some (.lst xs)) (ha : evE o a ρ S1 = .ok y S2) {v : PV} (h : appendTo S2 (.ref k) y = .ok v S3) : evE o (.app r a) ρ S = .ok v S3 := by
  show (evE o r ρ S).bind _ = _
  have e : isListRef S1 (.ref k) = true := by
    show (match S1[k]? with | some (.lst _) => true | _ => false) = true
    rw [hk]
  rw [hr, Out.bind_ok, if_pos e, ha, Out.bind_ok, h]
theorem gpop {r : C} {k : Nat} {xs : List PV} {y : PV} (hr : evE o r ρ S = .ok (.ref k) S1) (hk : S1[k]? = some (.lst xs)) (hl : xs.getLast? = some y) : evE o (.pop r) ρ S = .ok y (S1.set k (.lst xs.dropLast)) := by
  show (evE o r ρ S).bind _ = _
  rw [hr, Out.bind_ok]
  show (match S1[k]? with | some (.lst xs) => (match xs.getLast? with | some v => Out.ok v (S1.set k (.lst xs.dropLast)) | none => .bad) | _ => .bad) = _
  rw [hk]
  show (match xs.getLast? with | some v => Out.ok v (S1.set k (.lst xs.dropLast)) | none => .bad) = _
  rw [hl]
theorem grev {a : C} {s : List Nat} (ha : evE o a ρ S = .ok (.str s) S1) : evE o (.rev a) ρ S = .ok (.str s.reverse) S1 := by
  show (evE o a ρ S).bind _ = _
  rw [ha]; rfl
theorem gfld {c f : List Nat} {a : C} {x v : PV} (ha : evE o a ρ S = .ok x S1) (h : fldOf S1 c x f = some v) : evE o (.fld c a f) ρ S = .ok v S1 := by
  show (evE o a ρ S).bind _ = _
  rw [ha, Out.bind_ok, h]; rfl
theorem gmeth {c m : List Nat} {f : Nat} {a : C} {es : List C} {x : PV} {vs : List PV} {r : Out PV} (ha : evE o a ρ S = .ok x S1) (hi : isIns S1 x c m = true) (hs : evEs o es ρ S1 = .ok vs S2) (hc : o.call f (x :: vs) S2 = r) : evE o (.meth c f m a es) ρ S = r := by
  show (evE o a ρ S).bind _ = _
  rw [ha, Out.bind_ok, if_pos hi, hs, Out.bind_ok, hc]
theorem gmake {c : List Nat} {f : Nat} {es : List C} {vs : List PV} (hs : evEs o es ρ S = .ok vs S1) (hc : o.call f (.ref S1.length :: vs) (S1 ++ [.ins c []]) = .ok .non S2) : evE o (.make c f es) ρ S = .ok (.ref S1.length) S2 := by
  show (evEs o es ρ S).bind _ = _
  rw [hs, Out.bind_ok, hc]; rfl
theorem gdlit {es : List C} {us : List PV} {ks vs : List PV} (hs : evEs o es ρ (S ++ [.dic [] []]) = .ok us (S ++ [.dic [] []])) (hm : mergeD us ([], []) = some (ks, vs)) (hl : us.length ≤ 30) : evE o (.dlit es) ρ S = .ok (.ref S.length) (S ++ [.dic ks vs]) := by
  show (evEs o es ρ (S ++ [.dic [] []])).bind _ = _
  rw [hs, Out.bind_ok, if_pos (by rw [List.getElem?_append_right (Nat.le_refl _), Nat.sub_self]; rfl), hm]
  show (if us.length ≤ 30 then Out.ok (PV.ref S.length) ((S ++ [Cell.dic [] []]).set S.length (Cell.dic ks vs)) else .bad) = _
  rw [if_pos hl, List.set_append_right _ _ (Nat.le_refl _), Nat.sub_self]; rfl
theorem gdix {a b : C} {x y v : PV} (ha : evE o a ρ S = .ok x S1) (hb : evE o b ρ S1 = .ok y S2) (h : dicGet S2 x y = some (some v)) : evE o (.dix a b) ρ S = .ok v S2 := by
  show (evE o a ρ S).bind _ = _
  rw [ha, Out.bind_ok, hb, Out.bind_ok, h]
theorem gdget2 {a b d : C} {x y z : PV} {r : Option PV} (ha : evE o a ρ S = .ok x S1) (hd : isDic S1 x = true) (hb : evE o b ρ S1 = .ok y S2) (hz : evE o d ρ S2 = .ok z S3) (h : dicGet S3 x y = some r) : evE o (.dget2 a b d) ρ S = .ok (r.getD z) S3 := by
  show (evE o a ρ S).bind _ = _
  rw [ha, Out.bind_ok, if_pos hd, hb, Out.bind_ok, hz, Out.bind_ok, h]
theorem gdin {neg : Bool} {a b : C} {x y : PV} {r : Option PV} (hb : evE o b ρ S = .ok y S1) (ha : evE o a ρ S1 = .ok x S2) (h : dicGet S2 x y = some r) : evE o (.din neg b a) ρ S = .ok (.bl (if neg then !r.isSome else r.isSome)) S2 := by
  show (evE o b ρ S).bind _ = _
  rw [hb, Out.bind_ok, ha, Out.bind_ok, h]
theorem ggdx {d : List (List Nat × Int)} {b : C} {k : List Nat} {i : Int} (hb : evE o b ρ S = .ok (.str k) S1) (h : lookT k d = some i) : evE o (.gdx d b) ρ S = .ok (.int i) S1 := by
  show (evE o b ρ S).bind _ = _
  rw [hb]
  show lift S1 ((lookT k d).map fun (i : Int) => PV.int i) = _
  rw [h]; rfl
theorem ggdin {neg : Bool} {d : List (List Nat × Int)} {b : C} {k : List Nat} (hb : evE o b ρ S = .ok (.str k) S1) : evE o (.gdin neg d b) ρ S = .ok (.bl (if neg then !(lookT k d).isSome else (lookT k d).isSome)) S1 := by
  show (evE o b ρ S).bind _ = _
  rw [hb]; rfl
theorem glof {a : C} {x : PV} {xs : List PV} (ha : evE o a ρ S = .ok x S1) (h : seqOf S1 x = some xs) : evE o (.lof a) ρ S = .ok (.ref S1.length) (S1 ++ [.lst xs]) := by
  show (evE o a ρ S).bind _ = _
  rw [ha, Out.bind_ok, h]
theorem glrng {es : List C} {vs : List PV} {v : PV} (ha : evEs o es ρ S = .ok vs S1) (h : rgLst vs = some v) : evE o (.lrng es) ρ S = .ok v S1 := by
  show (evEs o es ρ S).bind _ = _
  rw [ha, Out.bind_ok, h]; rfl
theorem gdcnt {i : Nat} {a : C} {x v : PV} (ha : evE o a ρ S = .ok x S1) (hi : i < ρ.length) (h : dcntV x = some v) : evE o (.dcnt i a) ρ S = .ok v S1 := by
  show (evE o a ρ S).bind _ = _
  rw [ha, Out.bind_ok, if_pos hi, h]; rfl
theorem gscnt {a : C} {x v : PV} {xs : List PV} (ha : evE o a ρ S = .ok x S1) (hx : seqOf S1 x = some xs) (h : scntV xs = some v) : evE o (.scnt a) ρ S = .ok v S1 := by
  show (evE o a ρ S).bind _ = _
  rw [ha, Out.bind_ok, hx, Option.bind_some, h]; rfl
/-! statements -/
theorem s0 : evSs o [] ρ S = .next ρ S := rfl
theorem sseq {s : MK.S} {ss : List MK.S} {ρ' : Env} {r : SOut} (h : evS o s ρ S = .next ρ' S1) (hs : evSs o ss ρ' S1 = r) : evSs o (s :: ss) ρ S = r := by
  rw [evSs_cons, h, SOut.next_andThen, hs]
theorem sret {e : C} {v : PV} {ss : List MK.S} (h : evE o e ρ S = .ok v S1) : evSs o (.ret e :: ss) ρ S = .ret v S1 := by
  rw [evSs_cons, evS_ret, h]; rfl
theorem sexc {e : C} {c : Nat} {as : List PV} {ss : List MK.S} (h : evE o e ρ S = .exc c as S1) : evSs o (.ret e :: ss) ρ S = .exc c as ρ S1 := by
  rw [evSs_cons, evS_ret, h]; rfl
theorem sasg {e : C} {i : Nat} {v : PV} (he : evE o e ρ S = .ok v S1) (hi : i < ρ.length) : evS o (.asg (.nm i) e) ρ S = .next (ρ.set i (some v)) S1 := by
  rw [evS_asg, he, Out.toS_ok, asgK_nm _ hi]
theorem stp {e : C} {ts : List TG} {v : PV} {ρ' : Env} (he : evE o e ρ S = .ok v S1) (h : asg (.tp ts) v ρ = some ρ') : evS o (.asg (.tp ts) e) ρ S = .next ρ' S1 := by
  rw [evS_asg, he, Out.toS_ok, asgK, h]
theorem sex {e : C} {v : PV} (he : evE o e ρ S = .ok v S1) : evS o (.ex e) ρ S = .next ρ S1 := by
  rw [evS_ex, he, Out.toS_ok]
theorem sif_t {c : C} {a b : List MK.S} {x : Bool} {r : SOut} (h : evE o c ρ S = .ok (.bl x) S1) (hx : x = true) (hr : evSs o a ρ S1 = r) : evS o (.ifs c a b) ρ S = r := by
  subst hx
  rw [evS_ifs, h, Out.toS_ok, ifK_true, hr]
theorem sif_f {c : C} {a b : List MK.S} {x : Bool} {r : SOut} (h : evE o c ρ S = .ok (.bl x) S1) (hx : x = false) (hr : evSs o b ρ S1 = r) : evS o (.ifs c a b) ρ S = r := by
  subst hx
  rw [evS_ifs, h, Out.toS_ok, ifK_false, hr]
/-- a statement that ends the block -/
theorem send {s : MK.S} {ss : List MK.S} {v : PV} (h : evS o s ρ S = .ret v S1) : evSs o (s :: ss) ρ S = .ret v S1 := by
  rw [evSs_cons, h]; rfl
theorem ssfld {c f : List Nat} {a e : C} {x v : PV} (he : evE o e ρ S = .ok v S1) (ha : evE o a ρ S1 = .ok x S2) (h : setF S2 c x f v = some S3) : evS o (.sfld c a f e) ρ S = .next ρ S3 := by
  show (evE o e ρ S).toS ρ _ = _
  rw [he, Out.toS_ok, ha, Out.toS_ok, h]
theorem safld {c f : List Nat} {a e : C} {op : BO} {x u y z : PV} {S4 : Store} (ha : evE o a ρ S = .ok x S1) (hu : fldOf S1 c x f = some u) (he : evE o e ρ S1 = .ok y S2) (hz : evAug op u y = some z) (h : setF S2 c x f z = some S4) : evS o (.afld c a f op e) ρ S = .next ρ S4 := by
  show (evE o a ρ S).toS ρ _ = _
  rw [ha, Out.toS_ok, hu]
  show (evE o e ρ S1).toS ρ _ = _
  rw [he, Out.toS_ok, hz]
  show (match setF S2 c x f z with | some S3 => SOut.next ρ S3 | none => .bad) = _
  rw [h]
theorem sdput {d k e : C} {x y v : PV} {S4 : Store} (he : evE o e ρ S = .ok v S1) (hd : evE o d ρ S1 = .ok x S2) (hk : evE o k ρ S2 = .ok y S3) (h : dicPut S3 x y v = some S4) : evS o (.dput d k e) ρ S = .next ρ S4 := by
  show (evE o e ρ S).toS ρ _ = _
  rw [he, Out.toS_ok, hd, Out.toS_ok, hk, Out.toS_ok, h]
theorem ssls {a lo e : C} {x v : PV} {l : Int} {S4 : Store} (he : evE o e ρ S = .ok v S1) (ha : evE o a ρ S1 = .ok x S2) (hl : evE o lo ρ S2 = .ok (.int l) S3) (h : setSl S3 x l v = some S4) : evS o (.sls a lo e) ρ S = .next ρ S4 := by
  show (evE o e ρ S).toS ρ _ = _
  rw [he, Out.toS_ok, ha, Out.toS_ok, hl, Out.bind_ok, partI_int, Out.toS_ok]
  show (match setSl S3 x l v with | some S4 => SOut.next ρ S4 | none => .bad) = _
  rw [h]
theorem sasgA {ts : List AT} {e : C} {vs : List PV} {ρ' : Env} (he : evE o e ρ S = .ok (.tup vs) S1) (h : asgAs ts vs ρ S1 = some (ρ', S2)) : evS o (.asgA ts e) ρ S = .next ρ' S2 := by
  show (evE o e ρ S).toS ρ _ = _
  rw [he, Out.toS_ok]
  show (match asgAs ts vs ρ S1 with | some (ρ', S2) => SOut.next ρ' S2 | none => .bad) = _
  rw [h]
end
/-! values -/
section
variable (S : Store)
theorem c_eq_str (x y : List Nat) : evCmp S .eq (.str x) (.str y) = some (x == y) := rfl
theorem c_ne_str (x y : List Nat) : evCmp S .ne (.str x) (.str y) = some (!(x == y)) := rfl
theorem c_eq_int (x y : Int) : evCmp S .eq (.int x) (.int y) = some (x == y) := rfl
theorem c_ne_int (x y : Int) : evCmp S .ne (.int x) (.int y) = some (!(x == y)) := rfl
theorem b_len_tup (xs : List PV) : evBI S .len [.tup xs] = some (.int xs.length) := rfl
theorem b_len_lst (xs : List PV) : evBI S .len [.lst xs] = some (.int xs.length) := rfl
theorem b_len_str (s : List Nat) : evBI S .len [.str s] = some (.int s.length) := rfl
theorem i_tup (xs : List PV) (k : Nat) {v : PV} (h : xs[k]? = some v) : evIx S (.tup xs) (.int (k : Int)) = some v := by
  show ixAt xs (k : Int) = _
  unfold ixAt
  rw [if_pos (by omega), Int.toNat_natCast, h]
theorem i_lst (xs : List PV) (k : Nat) {v : PV} (h : xs[k]? = some v) : evIx S (.lst xs) (.int (k : Int)) = some v := by
  show ixAt xs (k : Int) = _
  unfold ixAt
  rw [if_pos (by omega), Int.toNat_natCast, h]
end
/-! ### comprehensions -/
section
variable {o : Orc} {ρ : Env} {S : Store}
theorem it_seq {e : C} {v : PV} {w : Walk} {S1 : Store} (h : evE o e ρ S = .ok v S1) (hw : walkOf S1 v = some w) : evIt o (.seq e) ρ S = .ok w S1 := by
  rw [evIt_seq, h, Out.bind_ok, hw, lift_some]
theorem wk_tup (xs : List PV) : walkOf S (.tup xs) = some (xs, none) := rfl
theorem wk_lst (xs : List PV) : walkOf S (.lst xs) = some (xs, none) := rfl
theorem wk_str (s : List Nat) : walkOf S (.str s) = some (s.map fun c => .str [c], none) := rfl
theorem glc {α : Type} {i : Nat} {it : It} {elt : C} {l : List α} (g h : α → PV) (hw : evIt o it ρ S = .ok (l.map g, none) S) (hl : l.length ≤ SZ) (hi : i < ρ.length) (hb : ∀ a ∈ l, evE o elt (ρ.set i (some (g a))) S = .ok (h a) S) :
    evE o (.lc false [i] (.nm i) it [] elt) ρ S = .ok (.lst (l.map h)) S := by
  rw [evE_lc, hw, Out.bind_ok]
  unfold lcK
  rw [compL_map g h S l [] fun a ha => ?_]
  · rw [Out.bind_ok, lcE, if_pos (by rw [List.length_map]; exact hl), if_neg (by decide), List.nil_append]
  · refine cturn_ok (ρ' := ρ.set i (some (g a))) ?_ (hb a ha) rfl
    show (if i < (ρ.set i none).length then some ((ρ.set i none).set i (some (g a))) else none) = _
    rw [if_pos (by rw [List.length_set]; exact hi), List.set_set]
theorem gall {α : Type} {i : Nat} {it : It} {elt : C} {l : List α} (g : α → PV) (p : α → Bool) (hw : evIt o it ρ S = .ok (l.map g, none) S) (hl : l.length ≤ SZ) (hi : i < ρ.length) (hb : ∀ a ∈ l, evE o elt (ρ.set i (some (g a))) S = .ok (.bl (p a)) S) :
    evE o (.bi .all [.lc false [i] (.nm i) it [] elt]) ρ S = .ok (.bl (l.all p)) S :=
  gbi (gcons (glc g (fun a => .bl (p a)) hw hl hi hb) gnil) (evBI_all S p l)
theorem compL_filter {α : Type} {step : PV → Store → Out (Option PV)} (g h : α → PV) (p : α → Bool) (S : Store) : ∀ (l : List α) (acc : List PV), (∀ a ∈ l, step (g a) S = .ok (if p a then some (h a) else none) S) → compL step acc (l.map g) S = .ok (acc ++ (l.filter p).map h) S
  | [], acc, _ => by simp [compL]
  | a :: l, acc, hs => by
    rw [List.map_cons, compL, hs a List.mem_cons_self]
    cases hp : p a with
    | true =>
      rw [if_pos rfl]
      show compL step (acc ++ [h a]) (l.map g) S = _
      rw [compL_filter g h p S l _ fun b hb => hs b (List.mem_cons_of_mem _ hb), List.filter_cons_of_pos hp]
      simp
    | false =>
      rw [if_neg (by decide)]
      show compL step acc (l.map g) S = _
      rw [compL_filter g h p S l _ fun b hb => hs b (List.mem_cons_of_mem _ hb), List.filter_cons_of_neg (by rw [hp]; decide)]
theorem glcF {α : Type} {i : Nat} {it : It} {c elt : C} {l : List α} (g h : α → PV) (p : α → Bool) (hw : evIt o it ρ S = .ok (l.map g, none) S) (hl : l.length ≤ SZ) (hi : i < ρ.length) (hc : ∀ a ∈ l, evE o c (ρ.set i (some (g a))) S = .ok (.bl (p a)) S)
    (hb : ∀ a ∈ l, p a = true → evE o elt (ρ.set i (some (g a))) S = .ok (h a) S) : evE o (.lc false [i] (.nm i) it [c] elt) ρ S = .ok (.lst ((l.filter p).map h)) S := by
  rw [evE_lc, hw, Out.bind_ok]
  unfold lcK
  rw [compL_filter g h p S l [] fun a ha => ?_]
  · rw [Out.bind_ok, lcE, if_pos (by rw [List.length_map]; exact hl), if_neg (by decide), List.nil_append]
  · unfold cturn compStep
    have e : asg (.nm i) (g a) (wipe ρ [i]) = some (ρ.set i (some (g a))) := by
      show (if i < (ρ.set i none).length then some ((ρ.set i none).set i (some (g a))) else none) = _
      rw [if_pos (by rw [List.length_set]; exact hi), List.set_set]
    rw [e]
    show ((evE o c (ρ.set i (some (g a))) S).bind _).bind _ = _
    rw [hc a ha, Out.bind_ok]
    show (Out.ok (p a) S).bind _ = _
    rw [Out.bind_ok]
    cases hp : p a with
    | true =>
      rw [if_pos rfl, hb a ha hp, Out.bind_ok]
      rfl
    | false => rfl
end
end MK.A

set_option linter.all false
set_option autoImplicit false
set_option maxRecDepth 100000
set_option maxHeartbeats 4000000
/-! MkTm: a tuple, so many times: none, once. -/
namespace MK
open PySem PySem.Spec PyProof.Rows L2
/-- t * n where the tuple itself comes out -/
theorem tup_mul_same (l : Addr) (items : Array Value) (n : Nat) (dd : Option Addr) (sl : Array (Option Value)) (x : Int) (u : Tok) (c0 : (decide (x < -(2 ^ 63)) || decide (x ≥ 2 ^ 63)) = false) (c1 : (items.isEmpty || x == 1) = true) :
    Meets (Builtin.«tuple.__mul__» ⟨[.ref l, .int x u], []⟩) (fun _ R s => s.heap.get? l = some { cls := .type "tuple", dict := dd, data := .seq items n, slots := sl } ∧ R (.ok (.ret (.ref l))) s) :=
  .of_wp fun prog w A R s h => by
    obtain ⟨hp, g, d, tk, os⟩ := s
    obtain ⟨hl, h⟩ := h
    have f1 := AutoSeq1.idx_int
    wp_walk using wpAny_loadPart' hl
    refine wpAny_ite_false (decide_eq_false (by rw [c0]; exact Bool.false_ne_true)) ?_
    wp_walk using wpAny_loadPart' hl
    exact ⟨_, rfl, h⟩
/-- t * 0 -/
theorem tup_mul_none (l : Addr) (items : Array Value) (n : Nat) (dd : Option Addr) (sl : Array (Option Value)) (x : Int) (u : Tok) (c0 : (decide (x < -(2 ^ 63)) || decide (x ≥ 2 ^ 63)) = false) (c1 : (items.isEmpty || x == 1) = false) (c2 : (decide (x ≤ 0) || items.isEmpty) = true) :
    Meets (Builtin.«tuple.__mul__» ⟨[.ref l, .int x u], []⟩) (fun _ R s => s.heap.get? l = some { cls := .type "tuple", dict := dd, data := .seq items n, slots := sl } ∧
      R (.ok (.ret (Value.ref s.heap.objs.size))) { s with heap := s.heap.push { cls := Value.type "tuple", data := Data.seq #[] }, toks := s.toks }) :=
  .of_wp fun prog w A R s h => by
    obtain ⟨hp, g, d, tk, os⟩ := s
    obtain ⟨hl, h⟩ := h
    have f1 := AutoSeq1.idx_int
    wp_walk using wpAny_loadPart' hl
    refine wpAny_ite_false (decide_eq_false (by rw [c0]; exact Bool.false_ne_true)) ?_
    wp_walk using wpAny_loadPart' hl
    exact ⟨_, rfl, h⟩
section
variable {X : Cx}
theorem op_repT1 : OpR X (binaryOp .Mult) (fun x y H Q => ∃ l k xs, x = .ref l ∧ y = .int k ∧ SqT X.K H l xs ∧ -(2 ^ 63) ≤ k ∧ k < 2 ^ 63 ∧ (xs = [] ∨ k = 1) ∧ Q (.ref l) H) := by
  intro pins s σ H x y v u Q I rx ry h
  obtain ⟨l, k, xs, rfl, rfl, hT, k1, k2, hk, q⟩ := h
  obtain rfl : v = Value.ref l := rx
  obtain ⟨t, rfl⟩ := ry
  obtain ⟨its, r, ⟨⟨ocl, odd, oda, osl⟩, ho, hcl, n, hda⟩, hs⟩ := I.tuple hT
  dsimp only at hcl hda
  subst hcl hda
  have c0 : (decide (k < -(2 ^ 63)) || decide (k ≥ 2 ^ 63)) = false := by rw [decide_eq_false (Int.not_lt.mpr k1), decide_eq_false (Int.not_le.mpr k2)]; rfl
  have c1 : (its.toArray.isEmpty || k == 1) = true := by
    rcases hk with e | e
    · subst e
      cases r
      rfl
    · subst e
      exact Bool.or_true _
  exact wpAny_binaryOp_repeat_ref (T := "tuple") (U := "int") (by decide) ⟨_, ho, rfl⟩ (fun s' => typeIs_int s' k t) noFill_tuple_mul F.fills_int_mul F.slot_int_rmul repeat_tuple F.slot_int_index.lookup
    (call_meets F.slot_int_rmul (typeIs_int s k t) F.entry_int_rmul (F.args_int_rmul_2 _ _) (int_rmul_tuple k t l its.toArray n odd osl) ⟨ho, rfl, ⟨_, ho, rfl⟩,
      call_meets F.slot_tuple_mul ⟨_, ho, rfl⟩ F.entry_tuple_mul (F.args_tuple_mul_2 _ _) (tup_mul_same l its.toArray n odd osl k t c0 c1) ⟨ho, .ref l, H, I, rfl, q⟩⟩)
theorem op_repT0 : OpR X (binaryOp .Mult) (fun x y H Q => ∃ l k xs, x = .ref l ∧ y = .int k ∧ SqT X.K H l xs ∧ -(2 ^ 63) ≤ k ∧ k ≤ 0 ∧ xs ≠ [] ∧ ∀ p, H p = none → Q (.ref p) (upd H p (.tup []))) := by
  intro pins s σ H x y v u Q I rx ry h
  obtain ⟨l, k, xs, rfl, rfl, hT, k1, k2, hne, q⟩ := h
  obtain rfl : v = Value.ref l := rx
  obtain ⟨t, rfl⟩ := ry
  obtain ⟨its, r, ⟨⟨ocl, odd, oda, osl⟩, ho, hcl, n, hda⟩, hs⟩ := I.tuple hT
  dsimp only at hcl hda
  subst hcl hda
  have c0 : (decide (k < -(2 ^ 63)) || decide (k ≥ 2 ^ 63)) = false := by rw [decide_eq_false (Int.not_lt.mpr k1), decide_eq_false (by omega)]; rfl
  have c1 : (its.toArray.isEmpty || k == 1) = false := by
    cases r with
    | nil => exact absurd rfl hne
    | cons _ _ => exact beq_eq_false_iff_ne.mpr (by omega)
  have c2 : (decide (k ≤ 0) || its.toArray.isEmpty) = true := by rw [decide_eq_true k2]; rfl
  refine wpAny_binaryOp_repeat_ref (T := "tuple") (U := "int") (by decide) ⟨_, ho, rfl⟩ (fun s' => typeIs_int s' k t) noFill_tuple_mul F.fills_int_mul F.slot_int_rmul repeat_tuple F.slot_int_index.lookup
    (call_meets F.slot_int_rmul (typeIs_int s k t) F.entry_int_rmul (F.args_int_rmul_2 _ _) (int_rmul_tuple k t l its.toArray n odd osl) ⟨ho, rfl, ⟨_, ho, rfl⟩,
      call_meets F.slot_tuple_mul ⟨_, ho, rfl⟩ F.entry_tuple_mul (F.args_tuple_mul_2 _ _) (tup_mul_none l its.toArray n odd osl k t c0 c1 c2) ⟨ho, ?_⟩⟩)
  exact ⟨.ref s.heap.objs.size, _, I.laid (t' := s.toks) (o := .tup []) (fun b ob q => Heap.get?_push_of_some _ q) (Nat.le_refl _) ⟨Nat.zero_le _, [], .nil, IsTup.new _ _⟩, rfl, q _ (I.hok.fresh (Nat.le_refl _))⟩
end
end MK

set_option linter.all false
set_option autoImplicit false
set_option Elab.async false
set_option maxRecDepth 100000
/-! MkRel: how the evaluator's values and store lie in the abstract heap. -/
namespace MK
open PySem PySem.Spec PyProof.Rows L2

theorem SZ_eq : SZ = sizeLine := by rw [sizeLine_eq]; rfl
def strV (s : List Nat) : Str := ⟨s.toArray⟩
@[simp] theorem strV_length (s : List Nat) : (strV s).length = s.length := by show (s.toArray).size = _; simp
@[simp] theorem strV_cps (s : List Nat) : (strV s).cps.toList = s := by show (s.toArray).toList = _; simp
theorem strV_inj {s t : List Nat} (h : strV s = strV t) : s = t := by
  have := congrArg (fun z : Str => z.cps.toList) h
  simpa using this
theorem strV_of (z : Str) : strV z.cps.toList = z := by
  obtain ⟨c⟩ := z
  show (⟨c.toList.toArray⟩ : Str) = ⟨c⟩
  simp

/-- a text of the evaluator: not too long, its signs are signs -/
def okS (s : List Nat) : Prop := s.length ≤ SZ ∧ ∀ c ∈ s, c < 1114112
theorem okS.append {s t : List Nat} (a : okS s) (b : okS t) (h : s.length + t.length ≤ SZ) : okS (s ++ t) :=
  ⟨by rw [List.length_append]; exact h, fun c hc => (List.mem_append.mp hc).elim (a.2 c) (b.2 c)⟩
theorem okS.sub {s t : List Nat} (a : okS s) (hl : t.length ≤ s.length) (h : ∀ c ∈ t, c ∈ s) : okS t := ⟨Nat.le_trans hl a.1, fun c hc => a.2 c (h c hc)⟩
theorem okS.cut {s : List Nat} (a : okS s) (lo hi : Option Int) : okS (cut s lo hi) :=
  a.sub (by unfold MK.cut; rw [List.length_take, List.length_drop]; omega) fun c hc => List.mem_of_mem_drop (List.mem_of_mem_take hc)
theorem okS.one {s : List Nat} {c : Nat} (a : okS s) (h : c ∈ s) : okS [c] := ⟨by show 1 ≤ SZ; decide, fun d hd => by rw [List.mem_singleton.mp hd]; exact a.2 c h⟩

/-- a list of the written part -/
def KL (K : PySem.W.Frag) (a : Addr) (xs : List V) : Prop :=
  ∃ (o : Obj) (its : Array Value) (n : Nat), K.lookup a = some o ∧ o.cls = .type "list" ∧ o.dict = none ∧ o.data = .seq its n ∧ its.size ≤ sizeLine ∧ Vals xs its.toList
def KT (K : PySem.W.Frag) (a : Addr) (xs : List V) : Prop :=
  ∃ (o : Obj) (its : Array Value) (n : Nat), K.lookup a = some o ∧ o.cls = .type "tuple" ∧ o.data = .seq its n ∧ its.size ≤ sizeLine ∧ Vals xs its.toList

/-- where the places are, and what may be changed (these and lists that are being made) -/
structure Mp where
  at_ : Nat → Addr
  Z : Addr → Prop
/-- where a class lies -/
def clA (K : PySem.W.Frag) (c : List Nat) : Addr := match PySem.W.nsIn K mainGlobals (strV c) with
  | some (some (.ref a)) => a
  | _ => 0
/-- what may stand at a place -/
def MutO : HO → Prop
  | .lst _ => True
  | .dK _ => True
  | .ins _ _ _ => True
  | _ => False
/-- a key of a dict -/
def keyV : PV → Option Key
  | .int i => some (.inl i)
  | .str s => some (.inr (strV s))
  | _ => none
def KeyR : List PV → List (Key × V) → Prop
  | [], [] => True
  | k :: ks, kv :: kvs => keyV k = some kv.1 ∧ (∀ s, k = .str s → okS s) ∧ KeyR ks kvs
  | _, _ => False

section
variable (K : PySem.W.Frag) (m : Mp) (n : Nat) (H : Hp)
def LstR (a : Addr) (vs : List V) : Prop := (Rd H a (.lst vs) ∧ ¬ m.Z a) ∨ KL K a vs
mutual
/-- a value lies in the heap; the places below n are at m -/
inductive VR : PV → V → Prop
  | non : VR .non .non
  | bl (b : Bool) : VR (.bl b) (.bl b)
  | int (i : Int) : VR (.int i) (.int i)
  | str (s : List Nat) (h : okS s) : VR (.str s) (.str (strV s))
  | tup {a : Addr} {vs : List V} {xs : List PV} : SqT K H a vs → VRs xs vs → VR (.tup xs) (.ref a)
  | lst {a : Addr} {vs : List V} {xs : List PV} : LstR K m H a vs → VRs xs vs → VR (.lst xs) (.ref a)
  | ref {k : Nat} : k < n → VR (.ref k) (.ref (m.at_ k))
  | ty (t : String) : VR (.ty t) (.ty t)
inductive VRs : List PV → List V → Prop
  | nil : VRs [] []
  | cons {x : PV} {v : V} {xs : List PV} {vs : List V} : VR x v → VRs xs vs → VRs (x :: xs) (v :: vs)
end
def CellR (a : Addr) : Cell → Prop
  | .lst xs => ∃ vs, H a = some (.lst vs) ∧ VRs K m n H xs vs
  | .dic ks us => ∃ kvs, H a = some (.dK kvs) ∧ KeyR ks kvs ∧ VRs K m n H us (kvs.map (·.2))
  | .ins c fs => ∃ dx fvs, H a = some (.ins (clA K c) dx fvs) ∧ fvs.map (·.1) = fs.map (fun p => strV p.1) ∧ VRs K m n H (fs.map (·.2)) (fvs.map (·.2))
end

structure StoreR (K : PySem.W.Frag) (S : Store) (m : Mp) (H : Hp) : Prop where
  inj : ∀ j k, j < S.length → k < S.length → m.at_ j = m.at_ k → j = k
  cell : ∀ k c, S[k]? = some c → CellR K m S.length H (m.at_ k) c
  inZ : ∀ k, k < S.length → m.Z (m.at_ k)
  kind : ∀ a, m.Z a → ∃ o, H a = some o ∧ MutO o

/-- the heap goes on: the places stay, what is no place stays as it is, new places are none of these -/
structure Ext (m : Mp) (n : Nat) (H : Hp) (m' : Mp) (n' : Nat) (H' : Hp) : Prop where
  z0 : ∀ k, k < n → m.Z (m.at_ k)
  le : n ≤ n'
  emb : ∀ k, k < n → m'.at_ k = m.at_ k
  keep : ∀ a o, H a = some o → (∀ k, k < n → m.at_ k ≠ a) → H' a = some o
  sub : ∀ a, m.Z a → m'.Z a
  fresh : ∀ a, m'.Z a → ¬ m.Z a → H a = none
  new : ∀ k, n ≤ k → k < n' → ¬ m.Z (m'.at_ k) ∧ H (m'.at_ k) = none

section
variable {K : PySem.W.Frag} {m m' m1 m2 : Mp} {n n' n1 n2 : Nat} {H H' H1 H2 : Hp} {S S' S1 S2 : Store} {a : Addr} {vs : List V}
theorem Ext.self (z : ∀ k, k < n → m.Z (m.at_ k)) : Ext m n H m n H := ⟨z, Nat.le_refl _, fun _ _ => rfl, fun _ _ h _ => h, fun _ h => h, fun _ h k => absurd h k, fun k h1 h2 => absurd (Nat.lt_of_lt_of_le h2 h1) (Nat.lt_irrefl _)⟩
theorem Ext.refl (st : StoreR K S m H) : Ext m S.length H m S.length H := .self st.inZ
theorem Ext.trans (a : Ext m n H m1 n1 H1) (b : Ext m1 n1 H1 m2 n2 H2) : Ext m n H m2 n2 H2 where
  z0 := a.z0
  le := Nat.le_trans a.le b.le
  emb := fun k h => (b.emb k (Nat.lt_of_lt_of_le h a.le)).trans (a.emb k h)
  keep := fun c o h hk => by
    refine b.keep c o (a.keep c o h hk) fun k hk1 e => ?_
    by_cases q : k < n
    · rw [a.emb k q] at e; exact hk k q e
    · have := (a.new k (Nat.le_of_not_lt q) hk1).2
      rw [e, h] at this; cases this
  sub := fun c h => b.sub c (a.sub c h)
  fresh := fun c h2 h0 => by
    by_cases q : m1.Z c
    · exact a.fresh c q h0
    · have h1 := b.fresh c h2 q
      cases e : H c with
      | none => rfl
      | some o =>
        have := a.keep c o e fun k hk e' => h0 (by rw [← e']; exact a.z0 k hk)
        rw [h1] at this; cases this
  new := fun k h1 h2 => by
    by_cases q : k < n1
    · rw [b.emb k q]; exact a.new k h1 q
    · obtain ⟨b1, b2⟩ := b.new k (Nat.le_of_not_lt q) h2
      have b3 : ¬ m.Z (m2.at_ k) := fun h => b1 (a.sub _ h)
      refine ⟨b3, ?_⟩
      cases e : H (m2.at_ k) with
      | none => rfl
      | some o =>
        have := a.keep _ o e fun k' hk e' => b3 (by rw [← e']; exact a.z0 k' hk)
        rw [b2] at this; cases this

/-- what is no list is at no place -/
theorem StoreR.off (st : StoreR K S m H) {o : HO} (h : H a = some o) (ho : ¬ MutO o) : ¬ m.Z a := fun z => by
  obtain ⟨u, q, hu⟩ := st.kind a z
  rw [h] at q
  cases q
  exact ho hu
theorem StoreR.at (st : StoreR K S m H) {k : Nat} (hk : k < S.length) : CellR K m S.length H (m.at_ k) S[k] := st.cell k _ (List.getElem?_eq_getElem hk)
theorem Ext.keepZ (ex : Ext m n H m' n' H') {o : HO} (h : H a = some o) (z : ¬ m.Z a) : H' a = some o := ex.keep a o h fun k hk e => z (by rw [← e]; exact ex.z0 k hk)
theorem Ext.offZ (ex : Ext m n H m' n' H') {o : HO} (h : H a = some o) (z : ¬ m.Z a) : ¬ m'.Z a := fun q => by
  have := ex.fresh a q z
  rw [h] at this; cases this

theorem SqT.on (st : StoreR K S m H) (ex : Ext m S.length H m' n' H') (h : SqT K H a vs) : SqT K H' a vs := by
  rcases h with (h | ⟨o, h⟩) | h
  · exact .inl (.inl (ex.keepZ h (st.off h fun q => q)))
  · exact .inl (.inr ⟨o, ex.keepZ h (st.off h fun q => q)⟩)
  · exact .inr h
theorem LstR.on (ex : Ext m n H m' n' H') (h : LstR K m H a vs) : LstR K m' H' a vs := by
  rcases h with ⟨h | ⟨o, h⟩, k⟩ | h
  · exact .inl ⟨.inl (ex.keepZ h k), ex.offZ h k⟩
  · exact .inl ⟨.inr ⟨o, ex.keepZ h k⟩, ex.offZ h k⟩
  · exact .inr h
theorem LstR.sq (h : LstR K m H a vs) : SqL K H a vs := by
  rcases h with ⟨h, _⟩ | h
  · exact .inl h
  · exact .inr h
mutual
theorem VR.on (st : StoreR K S m H) (ex : Ext m S.length H m' n' H') : ∀ {x : PV} {v : V}, VR K m S.length H x v → VR K m' n' H' x v
  | _, _, .non => .non
  | _, _, .bl b => .bl b
  | _, _, .int i => .int i
  | _, _, .str s h => .str s h
  | _, _, .tup h r => .tup (SqT.on st ex h) (VRs.on st ex r)
  | _, _, .lst h r => .lst (LstR.on ex h) (VRs.on st ex r)
  | _, _, .ref (k := k) h => by
    rw [← ex.emb k h]
    exact .ref (Nat.lt_of_lt_of_le h ex.le)
  | _, _, .ty t => .ty t
theorem VRs.on (st : StoreR K S m H) (ex : Ext m S.length H m' n' H') : ∀ {x : List PV} {v : List V}, VRs K m S.length H x v → VRs K m' n' H' x v
  | _, _, .nil => .nil
  | _, _, .cons r t => .cons (VR.on st ex r) (VRs.on st ex t)
end
theorem VRs.length : ∀ {x : List PV} {v : List V}, VRs K m n H x v → x.length = v.length
  | _, _, .nil => rfl
  | _, _, .cons _ t => by rw [List.length_cons, List.length_cons, VRs.length t]
theorem VRs.get : ∀ {xs : List PV} {vs : List V} {i : Nat} {x : PV}, VRs K m n H xs vs → xs[i]? = some x → ∃ v, vs[i]? = some v ∧ VR K m n H x v
  | _, _, _, _, .nil, e => by simp at e
  | _, _, 0, _, .cons r _, e => by simp at e; subst e; exact ⟨_, rfl, r⟩
  | _, _, i + 1, x, .cons _ t, e => by
    obtain ⟨v, h1, h2⟩ := VRs.get (i := i) (x := x) t (by simpa using e)
    exact ⟨v, by simpa using h1, h2⟩
theorem VRs.append : ∀ {xs ys : List PV} {vs ws : List V}, VRs K m n H xs vs → VRs K m n H ys ws → VRs K m n H (xs ++ ys) (vs ++ ws)
  | _, _, _, _, .nil, s => s
  | _, _, _, _, .cons r t, s => .cons r (VRs.append t s)
theorem VRs.take : ∀ {xs : List PV} {vs : List V} (k : Nat), VRs K m n H xs vs → VRs K m n H (xs.take k) (vs.take k)
  | _, _, 0, _ => by simp; exact .nil
  | _, _, _ + 1, .nil => .nil
  | _, _, k + 1, .cons r t => .cons r (VRs.take k t)
theorem VRs.drop : ∀ {xs : List PV} {vs : List V} (k : Nat), VRs K m n H xs vs → VRs K m n H (xs.drop k) (vs.drop k)
  | _, _, 0, r => r
  | _, _, _ + 1, .nil => .nil
  | _, _, k + 1, .cons _ t => VRs.drop k t

/-! ### a new object, a place written -/
theorem StoreR.some (st : StoreR K S m H) : ∀ k, k < S.length → ∃ u, H (m.at_ k) = some u := fun k hk => let ⟨u, h, _⟩ := st.kind _ (st.inZ k hk); ⟨_, h⟩
theorem Ext.push {p : Addr} {o : HO} (st : StoreR K S m H) (hp : H p = none) : Ext m S.length H m S.length (upd H p o) where
  z0 := st.inZ
  le := Nat.le_refl _
  emb := fun _ _ => rfl
  keep := fun a u h _ => by rw [upd_ne (ne_of_none h hp)]; exact h
  sub := fun _ h => h
  fresh := fun _ h k => absurd h k
  new := fun k h1 h2 => absurd (Nat.lt_of_lt_of_le h2 h1) (Nat.lt_irrefl _)
theorem CellR.on (st : StoreR K S m H) (ex : Ext m S.length H m' n' H') {c : Cell} (ha : H' a = H a) (h : CellR K m S.length H a c) : CellR K m' n' H' a c := by
  cases c with
  | lst xs => obtain ⟨vs, e, r⟩ := h; exact ⟨vs, ha.trans e, VRs.on st ex r⟩
  | dic ks us => obtain ⟨kvs, e, k, r⟩ := h; exact ⟨kvs, ha.trans e, k, VRs.on st ex r⟩
  | ins c fs => obtain ⟨dx, fvs, e, k, r⟩ := h; exact ⟨dx, fvs, ha.trans e, k, VRs.on st ex r⟩
theorem StoreR.push {p : Addr} {o : HO} (st : StoreR K S m H) (hp : H p = none) : StoreR K S m (upd H p o) where
  inj := st.inj
  cell := fun k c h => by
    have hk : k < S.length := (List.getElem?_eq_some_iff.mp h).1
    obtain ⟨u, hu⟩ := st.some k hk
    exact CellR.on st (Ext.push st hp) (upd_ne (ne_of_none hu hp)) (st.cell k c h)
  inZ := st.inZ
  kind := fun a z => let ⟨u, h, q⟩ := st.kind a z; ⟨u, by rw [upd_ne (ne_of_none h hp)]; exact h, q⟩
/-- a new place -/
def ext1 (m : Mp) (n : Nat) (p : Addr) : Mp := ⟨fun k => if k = n then p else m.at_ k, fun a => a = p ∨ m.Z a⟩
theorem ext1_same {m : Mp} {n : Nat} {p : Addr} : (ext1 m n p).at_ n = p := if_pos rfl
theorem ext1_ne {m : Mp} {n k : Nat} {p : Addr} (h : k ≠ n) : (ext1 m n p).at_ k = m.at_ k := if_neg h
theorem StoreR.noneZ (st : StoreR K S m H) {p : Addr} (hp : H p = none) : ¬ m.Z p := fun z => by
  obtain ⟨u, h, _⟩ := st.kind p z
  rw [hp] at h; cases h
theorem Ext.place {p : Addr} {o : HO} (st : StoreR K S m H) (hp : H p = none) : Ext m S.length H (ext1 m S.length p) (S.length + 1) (upd H p o) where
  z0 := st.inZ
  le := Nat.le_succ _
  emb := fun k h => ext1_ne (Nat.ne_of_lt h)
  keep := fun a u h _ => by rw [upd_ne (ne_of_none h hp)]; exact h
  sub := fun _ h => .inr h
  fresh := fun a h k => by
    rcases h with rfl | h
    · exact hp
    · exact absurd h k
  new := fun k h1 h2 => by
    have e : k = S.length := by omega
    subst e
    rw [ext1_same]
    exact ⟨st.noneZ hp, hp⟩
/-- a new thing is laid, of what it is made -/
theorem StoreR.placeC {p : Addr} {c : Cell} {o : HO} (st : StoreR K S m H) (hp : H p = none) (ho : MutO o) (r : CellR K (ext1 m S.length p) (S.length + 1) (upd H p o) p c) : StoreR K (S ++ [c]) (ext1 m S.length p) (upd H p o) := by
  have ex : Ext m S.length H (ext1 m S.length p) (S.length + 1) (upd H p o) := Ext.place st hp
  have hl : (S ++ [c]).length = S.length + 1 := by simp
  have np : ∀ k, k < S.length → m.at_ k ≠ p := fun k hk e => by
    obtain ⟨u, hu⟩ := st.some k hk
    rw [e, hp] at hu; cases hu
  refine ⟨fun j k hj hk e => ?_, fun k c h => ?_, fun k hk => ?_, fun a z => ?_⟩
  · rw [hl] at hj hk
    by_cases q1 : j = S.length <;> by_cases q2 : k = S.length
    · rw [q1, q2]
    · rw [q1, ext1_same, ext1_ne q2] at e
      exact absurd e.symm (np k (by omega))
    · rw [q2, ext1_same, ext1_ne q1] at e
      exact absurd e (np j (by omega))
    · rw [ext1_ne q1, ext1_ne q2] at e
      exact st.inj j k (by omega) (by omega) e
  · rename_i c'
    rw [hl]
    by_cases q : k = S.length
    · subst q
      rw [List.getElem?_append_right (Nat.le_refl _), Nat.sub_self] at h
      have h : c' = c := by simpa [eq_comm] using h
      subst h
      rw [ext1_same]
      exact r
    · have hk : k < S.length := by
        have := (List.getElem?_eq_some_iff.mp h).1
        rw [hl] at this; omega
      rw [List.getElem?_append_left hk] at h
      rw [ext1_ne q]
      obtain ⟨u, hu⟩ := st.some k hk
      exact CellR.on st ex (upd_ne (ne_of_none hu hp)) (st.cell k _ h)
  · rw [hl] at hk
    by_cases q : k = S.length
    · rw [q, ext1_same]; exact .inl rfl
    · rw [ext1_ne q]; exact .inr (st.inZ k (by omega))
  · rcases z with rfl | z
    · exact ⟨o, upd_same, ho⟩
    · obtain ⟨u, h, q⟩ := st.kind a z
      exact ⟨u, by rw [upd_ne (ne_of_none h hp)]; exact h, q⟩
theorem StoreR.place {p : Addr} {xs : List PV} (st : StoreR K S m H) (hp : H p = none) (r : VRs K m S.length H xs vs) : StoreR K (S ++ [.lst xs]) (ext1 m S.length p) (upd H p (.lst vs)) :=
  st.placeC hp True.intro ⟨vs, upd_same, VRs.on st (Ext.place st hp) r⟩
/-! ### a list that may be changed is changed -/
mutual
theorem VR.wr (st : StoreR K S m H) {D : Addr} {o : HO} (z : m.Z D) : ∀ {x : PV} {v : V}, VR K m S.length H x v → VR K m S.length (upd H D o) x v
  | _, _, .non => .non
  | _, _, .bl b => .bl b
  | _, _, .int i => .int i
  | _, _, .str s h => .str s h
  | _, _, .tup h r => by
    refine .tup ?_ (VRs.wr st z r)
    rcases h with (h | ⟨o, h⟩) | h
    · exact .inl (.inl ((upd_ne fun e => st.off h (fun q => q) (by rw [e]; exact z)).trans h))
    · exact .inl (.inr ⟨o, (upd_ne fun e => st.off h (fun q => q) (by rw [e]; exact z)).trans h⟩)
    · exact .inr h
  | _, _, .lst h r => by
    refine .lst ?_ (VRs.wr st z r)
    rcases h with ⟨h | ⟨o, h⟩, k⟩ | h
    · exact .inl ⟨.inl ((upd_ne fun e => k (by rw [e]; exact z)).trans h), k⟩
    · exact .inl ⟨.inr ⟨o, (upd_ne fun e => k (by rw [e]; exact z)).trans h⟩, k⟩
    · exact .inr h
  | _, _, .ref h => .ref h
  | _, _, .ty t => .ty t
theorem VRs.wr (st : StoreR K S m H) {D : Addr} {o : HO} (z : m.Z D) : ∀ {x : List PV} {v : List V}, VRs K m S.length H x v → VRs K m S.length (upd H D o) x v
  | _, _, .nil => .nil
  | _, _, .cons r t => .cons (VR.wr st z r) (VRs.wr st z t)
end
theorem Ext.write {k : Nat} {o : HO} (st : StoreR K S m H) (hk : k < S.length) : Ext m S.length H m S.length (upd H (m.at_ k) o) where
  z0 := st.inZ
  le := Nat.le_refl _
  emb := fun _ _ => rfl
  keep := fun a u h q => by rw [upd_ne (fun e => q k hk e.symm)]; exact h
  sub := fun _ h => h
  fresh := fun _ h k => absurd h k
  new := fun k h1 h2 => absurd (Nat.lt_of_lt_of_le h2 h1) (Nat.lt_irrefl _)
/-- a cell whose own object stays, over a write elsewhere -/
theorem CellR.wr (st : StoreR K S m H) {D : Addr} {o : HO} (z : m.Z D) {b : Addr} {c : Cell} (e : upd H D o b = H b) (h : CellR K m S.length H b c) : CellR K m S.length (upd H D o) b c := by
  cases c with
  | lst ys => obtain ⟨ws, e1, r1⟩ := h; exact ⟨ws, e.trans e1, VRs.wr st z r1⟩
  | dic ks us => obtain ⟨kvs, e1, k, r⟩ := h; exact ⟨kvs, e.trans e1, k, VRs.wr st z r⟩
  | ins c fs => obtain ⟨dx, fvs, e1, k, r⟩ := h; exact ⟨dx, fvs, e.trans e1, k, VRs.wr st z r⟩
theorem StoreR.writeC {k : Nat} {c : Cell} {o : HO} (st : StoreR K S m H) (hk : k < S.length) (ho : MutO o) (r : CellR K m S.length (upd H (m.at_ k) o) (m.at_ k) c) : StoreR K (S.set k c) m (upd H (m.at_ k) o) := by
  have hl : (S.set k c).length = S.length := by simp
  refine ⟨fun i j hi hj e => st.inj i j (by rw [hl] at hi; exact hi) (by rw [hl] at hj; exact hj) e, fun j c' h => ?_, fun j hj => st.inZ j (by rw [hl] at hj; exact hj), fun a z => ?_⟩
  · rw [hl]
    by_cases q : j = k
    · subst q
      rw [List.getElem?_set_self hk] at h
      cases h
      exact r
    · rw [List.getElem?_set_ne (Ne.symm q)] at h
      have hj : j < S.length := (List.getElem?_eq_some_iff.mp h).1
      exact CellR.wr st (st.inZ k hk) (upd_ne fun e => q (st.inj j k hj hk e)) (st.cell j c' h)
  · by_cases q : a = m.at_ k
    · subst q; exact ⟨o, upd_same, ho⟩
    · obtain ⟨u, h, hu⟩ := st.kind a z
      exact ⟨u, by rw [upd_ne q]; exact h, hu⟩
theorem StoreR.write {k : Nat} {xs : List PV} (st : StoreR K S m H) (hk : k < S.length) (r : VRs K m S.length H xs vs) : StoreR K (S.set k (.lst xs)) m (upd H (m.at_ k) (.lst vs)) :=
  st.writeC hk True.intro ⟨vs, upd_same, VRs.wr st (st.inZ k hk) r⟩

/-! ### a list that is being made: it is no place, but nobody else's -/
def hid (m : Mp) (D : Addr) : Mp := ⟨m.at_, fun a => a = D ∨ m.Z a⟩
theorem Ext.hide {D : Addr} {o : HO} (st : StoreR K S m H) (hp : H D = none) : Ext m S.length H (hid m D) S.length (upd H D o) where
  z0 := st.inZ
  le := Nat.le_refl _
  emb := fun _ _ => rfl
  keep := fun a u h _ => by rw [upd_ne (ne_of_none h hp)]; exact h
  sub := fun _ h => .inr h
  fresh := fun a h k => by
    rcases h with rfl | h
    · exact hp
    · exact absurd h k
  new := fun k h1 h2 => absurd (Nat.lt_of_lt_of_le h2 h1) (Nat.lt_irrefl _)
theorem StoreR.hideO {D : Addr} {o : HO} (st : StoreR K S m H) (hp : H D = none) (ho : MutO o) : StoreR K S (hid m D) (upd H D o) where
  inj := st.inj
  cell := fun k c h => by
    have hk : k < S.length := (List.getElem?_eq_some_iff.mp h).1
    obtain ⟨u, hu⟩ := st.some k hk
    exact CellR.on st (Ext.hide st hp) (upd_ne (ne_of_none hu hp)) (st.cell k c h)
  inZ := fun k hk => .inr (st.inZ k hk)
  kind := fun a z => by
    rcases z with rfl | z
    · exact ⟨o, upd_same, ho⟩
    · obtain ⟨u, h, hu⟩ := st.kind a z
      exact ⟨u, by rw [upd_ne (ne_of_none h hp)]; exact h, hu⟩
theorem StoreR.hide {D : Addr} {ws : List V} (st : StoreR K S m H) (hp : H D = none) : StoreR K S (hid m D) (upd H D (.lst ws)) := st.hideO hp True.intro
/-- the thing being made is changed -/
theorem StoreR.growO {D : Addr} {o : HO} (st : StoreR K S m H) (z : m.Z D) (no : ∀ k, k < S.length → m.at_ k ≠ D) (ho : MutO o) : StoreR K S m (upd H D o) where
  inj := st.inj
  cell := fun k c h => by
    have hk : k < S.length := (List.getElem?_eq_some_iff.mp h).1
    exact CellR.wr st z (upd_ne (no k hk)) (st.cell k c h)
  inZ := st.inZ
  kind := fun a y => by
    by_cases q : a = D
    · subst q; exact ⟨o, upd_same, ho⟩
    · obtain ⟨u, h, hu⟩ := st.kind a y
      exact ⟨u, by rw [upd_ne q]; exact h, hu⟩
theorem StoreR.grow {D : Addr} {ws : List V} (st : StoreR K S m H) (z : m.Z D) (no : ∀ k, k < S.length → m.at_ k ≠ D) : StoreR K S m (upd H D (.lst ws)) := st.growO z no True.intro
/-- it is done: nobody's any more -/
def shw (m : Mp) (D : Addr) : Mp := ⟨m.at_, fun a => a ≠ D ∧ m.Z a⟩
mutual
/-- more places, fewer that may be changed, the same heap -/
theorem VR.re (hn : n ≤ n') (he : ∀ k, k < n → m'.at_ k = m.at_ k) (hz : ∀ a, m'.Z a → m.Z a) : ∀ {x : PV} {v : V}, VR K m n H x v → VR K m' n' H x v
  | _, _, .non => .non
  | _, _, .bl b => .bl b
  | _, _, .int i => .int i
  | _, _, .str s h => .str s h
  | _, _, .tup h r => .tup h (VRs.re hn he hz r)
  | _, _, .lst h r => .lst (h.imp (fun q => ⟨q.1, fun z => q.2 (hz _ z)⟩) id) (VRs.re hn he hz r)
  | _, _, .ref (k := k) h => by rw [← he k h]; exact .ref (Nat.lt_of_lt_of_le h hn)
  | _, _, .ty t => .ty t
theorem VRs.re (hn : n ≤ n') (he : ∀ k, k < n → m'.at_ k = m.at_ k) (hz : ∀ a, m'.Z a → m.Z a) : ∀ {x : List PV} {v : List V}, VRs K m n H x v → VRs K m' n' H x v
  | _, _, .nil => .nil
  | _, _, .cons r t => .cons (VR.re hn he hz r) (VRs.re hn he hz t)
end
theorem VR.shw {D : Addr} {x : PV} {v : V} (r : VR K m n H x v) : VR K (shw m D) n H x v := VR.re (m := m) (m' := MK.shw m D) (Nat.le_refl _) (fun _ _ => rfl) (fun (a : Addr) (h : (MK.shw m D).Z a) => h.2) r
theorem VRs.shw {D : Addr} {x : List PV} {v : List V} (r : VRs K m n H x v) : VRs K (shw m D) n H x v := VRs.re (m := m) (m' := MK.shw m D) (Nat.le_refl _) (fun _ _ => rfl) (fun (a : Addr) (h : (MK.shw m D).Z a) => h.2) r
theorem StoreR.shw {D : Addr} (st : StoreR K S m H) (no : ∀ k, k < S.length → m.at_ k ≠ D) : StoreR K S (shw m D) H where
  inj := st.inj
  cell := fun k c h => by
    have hc := st.cell k c h
    cases c with
    | lst ys => obtain ⟨us, e1, r1⟩ := hc; exact ⟨us, e1, VRs.shw r1⟩
    | dic ks us => obtain ⟨kvs, e, k, r⟩ := hc; exact ⟨kvs, e, k, VRs.shw r⟩
    | ins c fs => obtain ⟨dx, fvs, e, k, r⟩ := hc; exact ⟨dx, fvs, e, k, VRs.shw r⟩
  inZ := fun k hk => ⟨no k hk, st.inZ k hk⟩
  kind := fun a y => st.kind a y.2
theorem Ext.shw {D : Addr} (ex : Ext m n H m' n' H') (hp : H D = none) (z : ∀ a, m.Z a → H a ≠ none) : Ext m n H (shw m' D) n' H' where
  z0 := ex.z0
  le := ex.le
  emb := ex.emb
  keep := ex.keep
  sub := fun a h => ⟨fun e => z a h (e ▸ hp), ex.sub a h⟩
  fresh := fun a h k => ex.fresh a h.2 k
  new := ex.new

/-! ### lists and tuples that are read -/
theorem VR.listOf (st : StoreR K S m H) {x : PV} {v : V} {xs : List PV} (r : VR K m S.length H x v) (h : listOf S x = .some xs) : ∃ a vs, v = .ref a ∧ SqL K H a vs ∧ VRs K m S.length H xs vs := by
  cases r with
  | lst hl rs =>
    have h : Option.some _ = Option.some xs := h
    cases h
    exact ⟨_, _, rfl, hl.sq, rs⟩
  | @ref k hk =>
    have h : (match S[k]? with | .some (.lst xs) => Option.some xs | _ => Option.none) = Option.some xs := h
    have q := st.at hk
    rw [List.getElem?_eq_getElem hk] at h
    generalize S[k] = c at h q
    cases c with
    | lst ys =>
      have h : Option.some ys = Option.some xs := h
      cases h
      obtain ⟨vs, e, rs⟩ := q
      exact ⟨_, vs, rfl, .inl (.inl e), rs⟩
    | dic ks us => exact nomatch h
    | ins c fs => exact nomatch h
  | non => exact nomatch h
  | bl _ => exact nomatch h
  | int _ => exact nomatch h
  | str _ _ => exact nomatch h
  | tup _ _ => exact nomatch h
  | ty _ => exact nomatch h
theorem VR.dicOf (st : StoreR K S m H) {x : PV} {v : V} {ks us : List PV} (r : VR K m S.length H x v) (h : dicOf S x = .some (ks, us)) : ∃ k kvs, x = .ref k ∧ k < S.length ∧ S[k]? = Option.some (.dic ks us) ∧ v = .ref (m.at_ k) ∧ H (m.at_ k) = Option.some (.dK kvs) ∧ KeyR ks kvs ∧ VRs K m S.length H us (kvs.map (·.2)) := by
  cases r with
  | @ref k hk =>
    have h : (match S[k]? with | .some (.dic ks vs) => Option.some (ks, vs) | _ => Option.none) = Option.some (ks, us) := h
    split at h
    · rename_i ks' us' e
      cases h
      obtain ⟨kvs, e1, e2, e3⟩ := st.cell k _ e
      exact ⟨k, kvs, rfl, hk, e, rfl, e1, e2, e3⟩
    · cases h
  | non => exact nomatch h
  | bl _ => exact nomatch h
  | int _ => exact nomatch h
  | str _ _ => exact nomatch h
  | tup _ _ => exact nomatch h
  | lst _ _ => exact nomatch h
  | ty _ => exact nomatch h
theorem VR.insOf (st : StoreR K S m H) {x : PV} {v : V} {c : List Nat} {fs : List (List Nat × PV)} (r : VR K m S.length H x v) (h : insOf S x = .some (c, fs)) : ∃ k dx fvs, x = .ref k ∧ k < S.length ∧ S[k]? = Option.some (.ins c fs) ∧ v = .ref (m.at_ k) ∧ H (m.at_ k) = Option.some (.ins (clA K c) dx fvs) ∧ fvs.map (·.1) = fs.map (fun p => strV p.1) ∧ VRs K m S.length H (fs.map (·.2)) (fvs.map (·.2)) := by
  cases r with
  | @ref k hk =>
    have h : (match S[k]? with | .some (.ins c fs) => Option.some (c, fs) | _ => Option.none) = Option.some (c, fs) := h
    split at h
    · rename_i c' fs' e
      cases h
      obtain ⟨dx, fvs, e1, e2, e3⟩ := st.cell k _ e
      exact ⟨k, dx, fvs, rfl, hk, e, rfl, e1, e2, e3⟩
    · cases h
  | non => exact nomatch h
  | bl _ => exact nomatch h
  | int _ => exact nomatch h
  | str _ _ => exact nomatch h
  | tup _ _ => exact nomatch h
  | lst _ _ => exact nomatch h
  | ty _ => exact nomatch h
theorem KeyR.length : ∀ {ks : List PV} {kvs : List (Key × V)}, KeyR ks kvs → ks.length = kvs.length
  | [], [], _ => rfl
  | _ :: _, _ :: _, h => by rw [List.length_cons, List.length_cons, KeyR.length h.2.2]
  | [], _ :: _, h => h.elim
  | _ :: _, [], h => h.elim
theorem KeyR.ints : ∀ {ks : List PV} {kvs : List (Key × V)} {ns : List Int}, KeyR ks kvs → intsOf ks = .some ns → kvs.map (·.1) = ns.map Sum.inl
  | [], [], ns, _, h => by cases h; rfl
  | k :: ks, kv :: kvs, ns, r, h => by
    cases k with
    | int i =>
      obtain ⟨ns', e, rfl⟩ := Option.map_eq_some_iff.mp (show (intsOf ks).map (i :: ·) = Option.some ns from h)
      have e1 : Option.some (Sum.inl i) = Option.some kv.1 := r.1
      rw [List.map_cons, List.map_cons, KeyR.ints r.2.2 e, ← Option.some.inj e1]
    | _ => exact nomatch h
  | [], _ :: _, _, h, _ => h.elim
  | _ :: _, [], _, h, _ => h.elim
theorem VR.seqOf (st : StoreR K S m H) {x : PV} {v : V} {xs : List PV} (r : VR K m S.length H x v) (h : seqOf S x = .some xs) : ∃ a vs, v = .ref a ∧ (SqL K H a vs ∨ SqT K H a vs) ∧ VRs K m S.length H xs vs := by
  cases r with
  | tup ht rs =>
    have h : Option.some _ = Option.some xs := h
    cases h
    exact ⟨_, _, rfl, .inr ht, rs⟩
  | lst hl rs => obtain ⟨a, vs, e, q, rs'⟩ := VR.listOf st (VR.lst hl rs) h; exact ⟨a, vs, e, .inl q, rs'⟩
  | ref hk => obtain ⟨a, vs, e, q, rs'⟩ := VR.listOf st (VR.ref hk) h; exact ⟨a, vs, e, .inl q, rs'⟩
  | non => exact nomatch h
  | bl _ => exact nomatch h
  | int _ => exact nomatch h
  | str _ _ => exact nomatch h
  | ty _ => exact nomatch h
end

/-! ### exceptions -/
/-- the program's exception classes: where they lie, the field that each bears -/
structure Xs where
  n : Nat
  a : Nat → Addr
  f : Nat → Option Str
def flatV : PV → V
  | .int i => .int i
  | .str s => .str (strV s)
  | .bl b => .bl b
  | _ => .non
/-- the exception bears these values in its dict -/
def XD (xC : Xs) (c : Nat) (as : List PV) (d : Option Addr) (H : Hp) : Prop := c < xC.n ∧ match as with
  | [] => d = none
  | v :: _ => as = [v] ∧ xOk v = true ∧ (∀ s, v = .str s → okS s) ∧ ∃ (f : Str) (dd : Addr), xC.f c = some f ∧ d = some dd ∧ H dd = some (.xd [(f, flatV v)])
end MK

set_option linter.all false
set_option autoImplicit false
set_option Elab.async false
set_option maxRecDepth 100000
/-! MkStr: the model's texts and the evaluator's. -/
namespace MK
open PySem PySem.Spec PyProof.Rows L2 PySem.Builtin PySem.Builtin.Str

theorem occ_kept (s sub : Str) (hi : Nat) : ∀ (l : List Nat) (a f : Nat), (forIn l ((#[a] : Array Nat), f) (StrLaws.occBody s sub hi 1)).run.fst = #[a]
  | [], a, f => rfl
  | i :: l, a, f => by
    rw [List.forIn_cons]
    unfold StrLaws.occBody
    rw [if_neg (by simp)]
    exact occ_kept s sub hi l a f
theorem occ_from (s : List Nat) (c : Nat) : ∀ (n a f : Nat), f ≤ a → a + n = s.length + 1 →
    (forIn (List.range' a n) ((#[] : Array Nat), f) (StrLaws.occBody (strV s) (strV [c]) s.length 1)).run.fst.toList = (findC c (s.drop a) a).toList
  | 0, a, f, _, h => by
    have : s.drop a = [] := List.drop_eq_nil_of_le (by omega)
    rw [this]
    rfl
  | n + 1, a, f, hf, h => by
    rw [List.range'_succ, List.forIn_cons]
    unfold StrLaws.occBody
    have key := StrLaws.subAt_one (strV s) c a
    rw [strV_length, strV_cps] at key
    have key : a + (strV [c]).length ≤ s.length ∧ subAt (strV s) (strV [c]) a = true ↔ s[a]? = some c := key
    by_cases hc : s[a]? = some c
    · obtain ⟨k1, k2⟩ := key.mpr hc
      rw [if_pos ⟨⟨⟨by simp, hf⟩, k1⟩, k2⟩]
      obtain ⟨hl, he⟩ := List.getElem?_eq_some_iff.mp hc
      rw [List.drop_eq_getElem_cons hl, he]
      show (forIn _ (#[a], _) (StrLaws.occBody (strV s) (strV [c]) s.length 1)).run.fst.toList = _
      rw [occ_kept]
      simp [findC]
    · rw [if_neg fun q => hc (key.mp ⟨q.1.2, q.2⟩)]
      have ih := occ_from s c n (a + 1) f (by omega) (by omega)
      refine Eq.trans ih ?_
      by_cases hl : a < s.length
      · rw [List.drop_eq_getElem_cons hl]
        have : s[a] ≠ c := fun e => hc (by rw [List.getElem?_eq_getElem hl, e])
        simp [findC, this]
      · rw [List.drop_eq_nil_of_le (by omega), List.drop_eq_nil_of_le (by omega)]
        rfl
theorem occ1 (s : List Nat) (c a : Nat) (h : a ≤ s.length) : occurrences (strV s) (strV [c]) a s.length 1 = (findC c (s.drop a) a).toList := by
  rw [StrLaws.occ_eq]
  exact occ_from s c _ a a (Nat.le_refl _) (by omega)
theorem occ1_out (s : List Nat) (c a : Nat) (h : s.length < a) : occurrences (strV s) (strV [c]) a s.length 1 = [] := by
  rw [StrLaws.occ_eq]
  have : s.length + 1 - a = 0 := by omega
  rw [this]
  rfl
theorem findC_spec (c : Nat) : ∀ (s : List Nat) (k j : Nat), findC c s k = some j → k ≤ j ∧ j < k + s.length ∧ s[j - k]? = some c
  | [], k, j, h => by cases h
  | x :: r, k, j, h => by
    unfold findC at h
    split at h
    · rename_i e
      cases h
      refine ⟨Nat.le_refl _, by simp, by simp [e]⟩
    · obtain ⟨h1, h2, h3⟩ := findC_spec c r (k + 1) j h
      refine ⟨by omega, by simp; omega, ?_⟩
      have e : j - k = (j - (k + 1)) + 1 := by omega
      rw [e]
      simpa using h3
theorem occ_all (s : List Nat) (c : Nat) : occurrences (strV s) (strV [c]) 0 (strV s).length 1 = (findC c s 0).toList := by
  rw [strV_length, occ1 s c 0 (Nat.zero_le _)]
  rfl
/-! ### figures -/
theorem figs_str (i : Int) : (strV (figs i)) = (Str.ofString (toString i)) := by
  rw [Str.ofString_eq_toList]
  rfl
theorem figs_len (i : Int) (h : i.natAbs < 2 ^ 1000) : (figs i).length ≤ 1001 := by
  unfold figs
  rw [List.length_map]
  cases i with
  | ofNat m =>
    have := nat_repr_length_le (n := m) (k := 1000) (by decide) h
    rw [← String.length_toList] at this
    exact Nat.le_trans this (by decide)
  | negSucc m =>
    have h' : m + 1 < 2 ^ 1000 := h
    have := nat_repr_length_le (n := m + 1) (k := 1000) (by decide) h'
    show ("-" ++ Nat.repr (m + 1)).toList.length ≤ 1001
    rw [String.length_toList, String.length_append]
    have e : "-".length = 1 := rfl
    rw [e]
    omega
theorem figs_ok (i : Int) (h : i.natAbs < 2 ^ 1000) : okS (figs i) := by
  constructor
  · exact Nat.le_trans (figs_len i h) (by decide)
  · intro c hc
    unfold figs at hc
    obtain ⟨ch, _, rfl⟩ := List.mem_map.mp hc
    have hc : ch.val.toNat < 1114112 := by
      have h := ch.valid
      simp only [UInt32.isValidChar, Nat.isValidChar] at h
      omega
    exact hc
theorem numOf_digits : ∀ (s : List Nat) (a n : Nat), numOf s a = some n → PySem.NumText.AllDigits s
  | [], a, n, h => by intro c hc; cases hc
  | c :: r, a, n, h => by
    unfold numOf at h
    split at h
    · rename_i q
      intro d hd
      rcases List.mem_cons.mp hd with rfl | hd
      · exact q
      · exact numOf_digits r _ n h d hd
    · cases h
theorem numOf_val : ∀ (s : List Nat) (a n : Nat), numOf s a = some n → n = s.foldl (fun acc c => acc * 10 + (c - 48)) a
  | [], a, n, h => by cases h; rfl
  | c :: r, a, n, h => by
    unfold numOf at h
    split at h
    · have := numOf_val r _ n h
      rw [this, List.foldl_cons, Nat.mul_comm]
    · cases h
theorem int_text {s : List Nat} {n : Nat} (h0 : 0 < s.length) (h1 : s.length ≤ 640) (h : numOf s 0 = some n) : PySem.intText? (strV s) = some (n : Int) := by
  have hd := numOf_digits s 0 n h
  have hv := numOf_val s 0 n h
  have := PySem.intText_digits (x := strV s) (by rw [strV_cps]; exact hd) (by rw [strV_cps]; intro e; rw [e] at h0; cases h0) (by rw [strV_length]; omega)
  rw [this, strV_cps, hv]
  rfl

/-! ### find, split, join, rjust -/
theorem find_text (s : List Nat) (c : Nat) : Txt.find (strV s) (strV [c]) = (match findC c s 0 with | some k => (k : Int) | none => -1) := by
  show (match occurrences (strV s) (strV [c]) 0 (strV s).length 1 with | i :: _ => (i : Int) | [] => -1) = _
  rw [occ_all]
  cases findC c s 0 <;> rfl
theorem find3_text (s : List Nat) (c : Nat) (i : Int) (h : 0 ≤ i) : Txt.find3 (strV s) (strV [c]) i = (match findC c (s.drop i.toNat) i.toNat with | some k => (k : Int) | none => -1) := by
  show (match occurrences (strV s) (strV [c]) (fromIndex (strV s).length i) (strV s).length 1 with | i :: _ => (i : Int) | [] => -1) = _
  have e : fromIndex (strV s).length i = i.toNat := by
    unfold fromIndex
    rw [if_neg (by omega)]
    omega
  rw [e, strV_length]
  by_cases hl : i.toNat ≤ s.length
  · rw [occ1 s c _ hl]
    cases findC c (s.drop i.toNat) i.toNat <;> rfl
  · rw [occ1_out s c _ (by omega), List.drop_eq_nil_of_le (by omega)]
    rfl
theorem strSub_eq (s : List Nat) (i j : Nat) : strSub (strV s) i j = strV ((s.drop i).take (j - i)) := by
  show (⟨(strV s).cps.extract i j⟩ : Str) = ⟨_⟩
  congr 1
  show s.toArray.extract i j = _
  simp [List.extract_eq_take_drop]
theorem split_text (s : List Nat) (c : Nat) : Txt.splitMax (strV s) (strV [c]) 1 = (match findC c s 0 with | some k => [strV (s.take k), strV (s.drop (k + 1))] | none => [strV s]) := by
  unfold Txt.splitMax
  have hlim : limitOf (strV s) 1 = 1 := rfl
  rw [hlim, occ_all]
  cases hf : findC c s 0 with
  | none =>
    split
    · rfl
    · simp
  | some k =>
    obtain ⟨_, h2, h3⟩ := findC_spec c s 0 k hf
    have hk : k < s.length := by omega
    have hm : c ∈ s := List.mem_of_getElem? (by simpa using h3)
    have hno : (decide ((strV s).length < (strV [c]).length) || decide (PySem.Builtin.Str.strKind (strV s) < PySem.Builtin.Str.strKind (strV [c]))) = false := by
      rw [Bool.or_eq_false_iff]
      constructor
      · rw [strV_length, strV_length, decide_eq_false_iff_not]
        show ¬ s.length < 1
        omega
      · rw [decide_eq_false_iff_not]
        have k1 : PySem.Builtin.Str.strKind (strV [c]) = if c < 256 then 1 else if c < 65536 then 2 else 4 := by
          unfold PySem.Builtin.Str.strKind strV
          simp
        have k2 : PySem.Builtin.Str.strKind (strV s) = if s.all (· < 256) then 1 else if s.all (· < 65536) then 2 else 4 := by
          unfold PySem.Builtin.Str.strKind strV
          simp
        rw [k1, k2]
        have a1 : s.all (· < 256) = true → c < 256 := fun h => by
          have := List.all_eq_true.mp h c hm
          simpa using this
        have a2 : s.all (· < 65536) = true → c < 65536 := fun h => by
          have := List.all_eq_true.mp h c hm
          simpa using this
        split
        · rename_i h
          rw [if_pos (a1 h)]
          omega
        · split
          · rename_i h
            have := a2 h
            split <;> omega
          · split
            · omega
            · split <;> omega
    rw [if_neg (by rw [hno]; exact Bool.false_ne_true)]
    rw [if_neg (by simp)]
    show (List.zip (0 :: [k + (strV [c]).length]) ([k] ++ [(strV s).length])).map (fun (i, j) => strSub (strV s) i j) = _
    rw [strV_length, strV_length]
    show [strSub (strV s) 0 k, strSub (strV s) (k + 1) s.length] = _
    rw [strSub_eq, strSub_eq]
    have e1 : (s.drop 0).take (k - 0) = s.take k := by simp
    have e2 : (s.drop (k + 1)).take (s.length - (k + 1)) = s.drop (k + 1) := List.take_of_length_le (by rw [List.length_drop]; omega)
    rw [e1, e2]
theorem joinL_eq (sep : List Nat) : ∀ (ss : List (List Nat)), TL.joinL sep ss = joinL sep ss
  | [] => rfl
  | [_] => rfl
  | p :: q :: r => by
    show p ++ (sep ++ TL.joinL sep (q :: r)) = p ++ sep ++ joinL sep (q :: r)
    rw [joinL_eq sep (q :: r), List.append_assoc]
theorem join_text (sep : List Nat) (ss : List (List Nat)) : Txt.join (strV sep) (ss.map strV) = strV (joinL sep ss) := by
  rw [TL.join_eq]
  refine TL.ext_tl ?_
  rw [TL.tl_join, List.map_map]
  have : (ss.map (TL.tl ∘ strV)) = ss := by
    conv => rhs; rw [← List.map_id ss]
    exact List.map_congr_left fun x _ => strV_cps x
  rw [this]
  show TL.joinL (strV sep).cps.toList ss = (strV (joinL sep ss)).cps.toList
  rw [strV_cps, strV_cps, joinL_eq]
theorem joinL_len (sep : List Nat) : ∀ ss : List (List Nat), (joinL sep ss).length ≤ (ss.map List.length).sum + ss.length * sep.length
  | [] => by simp [joinL]
  | [x] => by simp [joinL]
  | x :: y :: r => by
    have := joinL_len sep (y :: r)
    show (x ++ sep ++ joinL sep (y :: r)).length ≤ _
    rw [List.length_append, List.length_append, List.map_cons, List.sum_cons, List.length_cons, Nat.add_mul]
    omega
theorem joinL_mem (sep : List Nat) : ∀ (ss : List (List Nat)) (c : Nat), c ∈ joinL sep ss → c ∈ sep ∨ ∃ x ∈ ss, c ∈ x
  | [], c, h => by cases h
  | [x], c, h => .inr ⟨x, List.mem_singleton.mpr rfl, h⟩
  | x :: y :: r, c, h => by
    have h : c ∈ x ++ sep ++ joinL sep (y :: r) := h
    rcases List.mem_append.mp h with h | h
    · rcases List.mem_append.mp h with h | h
      · exact .inr ⟨x, List.mem_cons_self, h⟩
      · exact .inl h
    · rcases joinL_mem sep (y :: r) c h with h | ⟨z, hz, h⟩
      · exact .inl h
      · exact .inr ⟨z, List.mem_cons_of_mem _ hz, h⟩
theorem rjust_text (s : List Nat) (n : Int) (c : Nat) : Txt.rjustF (strV s) n c = strV (List.replicate (n.toNat - s.length) c ++ s) := by
  unfold Txt.rjustF
  rw [strV_length]
  split
  · rename_i h
    have : n.toNat - s.length = 0 := by omega
    rw [this]
    rfl
  · unfold padded
    show (⟨Array.replicate (n.toNat - s.length) c ++ s.toArray ++ Array.replicate 0 c⟩ : Str) = ⟨_⟩
    simp
end MK

set_option linter.all false
set_option autoImplicit false
set_option Elab.async false
set_option maxRecDepth 100000
set_option maxHeartbeats 4000000
/-! MkOps: the operators and built-ins, from the layer's rules to the evaluator's. -/
namespace MK
open PySem PySem.Spec PyProof.Rows L2

/-- a value that is told without the store: what is wanted of it -/
def PEnd (K : PySem.W.Frag) (S : Store) (m : Mp) (H : Hp) (w : PV) (Q : VK) : Prop :=
  ∀ H', Ext m S.length H m S.length H' → StoreR K S m H' → ∀ z, VR K m S.length H' w z → Q z H'
section
variable {K : PySem.W.Frag} {S : Store} {m : Mp} {H : Hp} {w : PV} {Q : VK}
theorem PEnd.here (h : PEnd K S m H w Q) (st : StoreR K S m H) {z : V} (r : VR K m S.length H w z) : Q z H := h H (Ext.refl st) st z r
theorem PEnd.push (h : PEnd K S m H w Q) (st : StoreR K S m H) {p : Addr} {o : HO} (hp : H p = none) (r : VR K m S.length (upd H p o) w (.ref p)) : Q (.ref p) (upd H p o) :=
  h _ (Ext.push st hp) (st.push hp) _ r
theorem VRs.push {xs : List PV} {vs : List V} (st : StoreR K S m H) {p : Addr} {o : HO} (hp : H p = none) (r : VRs K m S.length H xs vs) : VRs K m S.length (upd H p o) xs vs := VRs.on st (Ext.push st hp) r
theorem VR.tupNew {xs : List PV} {vs : List V} (st : StoreR K S m H) {p : Addr} (hp : H p = none) (r : VRs K m S.length H xs vs) : VR K m S.length (upd H p (.tup vs)) (.tup xs) (.ref p) :=
  .tup (.inl (.inl upd_same)) (VRs.push st hp r)
theorem VR.lstNew {xs : List PV} {vs : List V} (st : StoreR K S m H) {p : Addr} (hp : H p = none) (r : VRs K m S.length H xs vs) : VR K m S.length (upd H p (.lst vs)) (.lst xs) (.ref p) :=
  .lst (.inl ⟨.inl upd_same, st.noneZ hp⟩) (VRs.push st hp r)
theorem PEnd.tup {xs : List PV} (h : PEnd K S m H (.tup xs) Q) (st : StoreR K S m H) {vs : List V} {p : Addr} (hp : H p = none) (r : VRs K m S.length H xs vs) : Q (.ref p) (upd H p (.tup vs)) := h.push st hp (VR.tupNew st hp r)
theorem PEnd.lst {xs : List PV} (h : PEnd K S m H (.lst xs) Q) (st : StoreR K S m H) {vs : List V} {p : Addr} (hp : H p = none) (r : VRs K m S.length H xs vs) : Q (.ref p) (upd H p (.lst vs)) := h.push st hp (VR.lstNew st hp r)
end

def opOf : BO → Operator
  | .add => .Add | .sub => .Sub | .mul => .Mult | .fdiv => .FloorDiv | .mod => .Mod | .pow => .Pow
def cmpOf : CO → CmpOp
  | .eq => .Eq | .ne => .NotEq | .lt => .Lt | .le => .LtE | .gt => .Gt | .ge => .GtE | .isN => .Is | .notN => .IsNot | .mem => .In | .nmem => .NotIn

section
variable {X : Cx}
/-- the shape of a rule for two values -/
def rB (K : PySem.W.Frag) (op : BO) : R2 := fun x y H Q => ∃ S m u v w, StoreR K S m H ∧ VR K m S.length H u x ∧ VR K m S.length H v y ∧ evBin S op u v = some w ∧ PEnd K S m H w Q
/-- xs + ys, of any lists that may be read -/
def rCatS (K : PySem.W.Frag) : R2 := fun x y H Q => ∃ l b xs zs, x = .ref l ∧ y = .ref b ∧ SqL K H l xs ∧ SqL K H b zs ∧ xs.length + zs.length ≤ sizeLine ∧ ∀ p, H p = none → Q (.ref p) (upd H p (.lst (xs ++ zs)))
theorem op_catS : OpR X (binaryOp .Add) (rCatS X.K) := by
  intro pins s σ H x y v u Q I rx ry h
  obtain ⟨l, b, xs, zs, rfl, rfl, hH, hB, hz, q⟩ := h
  cases rx
  cases ry
  obtain ⟨its, r, ⟨⟨cls, dd, data, sl⟩, n, ho, hc, hdn, hd⟩, hl⟩ := I.list hH
  obtain ⟨its2, r2, ⟨⟨cls2, dd2, data2, sl2⟩, n2, ho2, hc2, hdn2, hd2⟩, hl2⟩ := I.list hB
  simp only at hc hd hc2 hd2
  subst hc hd hc2 hd2
  have e : its.toArray ++ its2.toArray = (its ++ its2).toArray := by simp
  have e1 := r.length
  have e2 := r2.length
  refine concat_meets ⟨_, ho, rfl⟩ ⟨_, ho2, rfl⟩ noFill_list_add seq_list_add PySem.F.slot_list_add PySem.F.entry_list_add (PySem.F.args_list_add_2 _ _) (list_addW l b its.toArray its2.toArray n n2 dd dd2 sl sl2 (by simp; omega)) ⟨ho, ho2, ?_⟩
  rw [e]
  exact ⟨.ref _, _, I.lnew (t' := s.toks) (r.append r2) (by rw [List.length_append]; omega), rfl, q _ I.fresh⟩
theorem int_rmul_listW (a : Int) (t : Tok) (l : Addr) (items : Array Value) (n : Nat) (dd : Option Addr) (sl : Array (Option Value)) :
    Meets (Builtin.«int.__rmul__» ⟨[.int a t, .ref l], []⟩) (fun _ R s => s.heap.get? l = some { cls := .type "list", dict := dd, data := .seq items n, slots := sl } ∧ R (.ok (.ret Value.notImplemented)) s) :=
  .of_wp fun prog w A R s h => by obtain ⟨hp, g, d, tk, os⟩ := s; obtain ⟨hl, h⟩ := h; wp_walk using AutoSeq1.wpAny_loadPart' hl; exact ⟨_, rfl, h⟩
theorem list_mulW (l : Addr) (items : Array Value) (n : Nat) (dd : Option Addr) (sl : Array (Option Value)) (x : Int) (u : Tok) (hc0 : ¬(!Builtin.List.listFitsIndex x) = true) (hc1 : ¬items.size * x.toNat > (2 ^ 63 - 1) / 8) (hc2 : ¬Builtin.List.listTooLong (items.size * x.toNat) = true) :
    Meets (Builtin.«list.__mul__» ⟨[.ref l, .int x u], []⟩) (fun _ R s => s.heap.get? l = some { cls := .type "list", dict := dd, data := .seq items n, slots := sl } ∧ R (.ok (.ret (Value.ref s.heap.objs.size))) { s with heap := s.heap.push { cls := Value.type "list", data := Data.seq (List.foldl (fun x1 x2 => x1 ++ x2) #[] (List.replicate (if items.isEmpty = true then 0 else x.toNat) items)) }, toks := s.toks }) :=
  .of_wp fun prog w A R s h => by
    obtain ⟨hp, g, d, tk, os⟩ := s; obtain ⟨hl, h⟩ := h
    have hsz := AutoListH.joined_fits hc2
    wp_walk using AutoSeq1.wpAny_loadPart' hl; refine wpAny_ite_false (decide_eq_false (Nat.not_lt.mpr hsz)) ?_; wp_walk using AutoSeq1.wpAny_loadPart' hl; exact ⟨_, rfl, h⟩
/-- xs * k, of any list that may be read -/
def rRepS (K : PySem.W.Frag) : R2 := fun x y H Q => ∃ l k xs, x = .ref l ∧ y = .int k ∧ SqL K H l xs ∧ 0 ≤ k ∧ k ≤ 1000 ∧ xs.length ≤ 1000 ∧ ∀ p, H p = none → Q (.ref p) (upd H p (.lst (List.replicate k.toNat xs).flatten))
theorem op_repS : OpR X (binaryOp .Mult) (rRepS X.K) := by
  intro pins s σ H x y v u Q I rx ry h
  obtain ⟨l, k, xs, rfl, rfl, hH, h1, h2, hz, q⟩ := h
  cases rx
  obtain ⟨t, rfl⟩ := ry
  obtain ⟨its, r, ⟨⟨cls, dd, data, sl⟩, n, ho, hc, hdn, hd⟩, hl⟩ := I.list hH
  simp only at hc hd
  subst hc hd
  have hl := r.length
  have hb : its.toArray.size * k.toNat ≤ 1000 * 1000 := by rw [List.size_toArray, ← hl]; exact Nat.mul_le_mul hz (by omega)
  have hlen : its.toArray.size * k.toNat ≤ sizeLine := by rw [← SZ_eq]; exact Nat.le_trans hb (by decide)
  have hcap : ¬ its.toArray.size * k.toNat > (2 ^ 63 - 1) / 8 := by omega
  have hfit : ¬ (!Builtin.List.listFitsIndex k) = true := by
    rw [fitsIndex_both (by omega) (by omega)]
    exact Bool.false_ne_true
  have hlong : ¬ Builtin.List.listTooLong (its.toArray.size * k.toNat) = true := by
    rw [notLongL hlen]
    exact Bool.false_ne_true
  have hnew : List.foldl (fun x1 x2 => x1 ++ x2) #[] (List.replicate (if its.toArray.isEmpty = true then 0 else k.toNat) its.toArray) = (List.replicate k.toNat its).flatten.toArray := by
    have f0 : ∀ m : Nat, List.foldl (fun x1 x2 => x1 ++ x2) #[] (List.replicate m its.toArray) = (List.replicate m its).flatten.toArray := fun m => by
      have := foldl_rep its m []
      rw [List.nil_append] at this
      exact this
    rw [f0]
    cases its with
    | nil => simp
    | cons a r' => rw [if_neg (by simp)]
  refine wpAny_binaryOp_repeat_ref (T := "list") (U := "int") (by decide) ⟨_, ho, rfl⟩ (fun s' => typeIs_int s' k t) noFill_list_mul F.fills_int_mul F.slot_int_rmul repeat_list F.slot_int_index.lookup
    (call_meets F.slot_int_rmul (typeIs_int s k t) F.entry_int_rmul (F.args_int_rmul_2 _ _) (int_rmul_listW k t l its.toArray n dd sl)
      ⟨ho, rfl, ⟨_, ho, rfl⟩, call_meets F.slot_list_mul ⟨_, ho, rfl⟩ F.entry_list_mul (F.args_list_mul_2 _ _) (list_mulW l its.toArray n dd sl k t hfit hcap hlong) ⟨ho, ?_⟩⟩)
  rw [hnew]
  exact ⟨.ref _, _, I.lnew (t' := s.toks) (r.rep k.toNat) (by rw [PyProof.Rows.lm_len_rep_flat, Nat.mul_comm, ← SZ_eq]; rw [List.size_toArray, ← hl] at hb; exact Nat.le_trans hb (by decide)), rfl, q _ I.fresh⟩
theorem mulOk_C {i j : Int} (h : mulOk i j = true) : CMul i j := by
  unfold mulOk at h
  simp only [Bool.or_eq_true, decide_eq_true_eq] at h
  rcases h with h | h
  · exact .inl (by omega)
  · exact .inr (by omega)
theorem op_bin (op : BO) : OpR X (binaryOp (opOf op)) (rB X.K op) := by
  intro pins s σ H x y v u Q I rx ry h
  obtain ⟨S, m, a, b, w, st, ra, rb, e, q⟩ := h
  unfold evBin at e
  split at e
  · cases e; cases ra; cases rb
    exact op_add pins s σ H _ _ v u Q I rx ry ⟨_, _, rfl, rfl, q.here st (.int _)⟩
  · cases e; cases ra; cases rb
    exact op_sub pins s σ H _ _ v u Q I rx ry ⟨_, _, rfl, rfl, q.here st (.int _)⟩
  · split at e
    · rename_i hm
      cases e; cases ra; cases rb
      exact op_mul pins s σ H _ _ v u Q I rx ry ⟨_, _, rfl, rfl, mulOk_C hm, q.here st (.int _)⟩
    · cases e
  · split at e
    · rename_i hm
      cases e; cases ra; cases rb
      exact op_fdiv pins s σ H _ _ v u Q I rx ry ⟨_, _, rfl, rfl, hm, q.here st (.int _)⟩
    · cases e
  · split at e
    · rename_i hm
      cases e; cases ra; cases rb
      exact op_mod pins s σ H _ _ v u Q I rx ry ⟨_, _, rfl, rfl, hm, q.here st (.int _)⟩
    · cases e
  · split at e
    · rename_i hm
      cases e; cases ra; cases rb
      exact op_pow pins s σ H _ _ v u Q I rx ry ⟨_, _, rfl, rfl, hm, q.here st (.int _)⟩
    · cases e
  · split at e
    · rename_i xs ys hm
      cases e
      cases ra with
      | str _ h1 =>
        cases rb with
        | str _ h2 =>
          have e3 : strV xs ++ strV ys = strV (xs ++ ys) := by
            show (⟨xs.toArray ++ ys.toArray⟩ : Str) = ⟨(xs ++ ys).toArray⟩
            simp
          refine op_add_str pins s σ H _ _ v u Q I rx ry ⟨_, _, rfl, rfl, ?_, ?_⟩
          · rw [strV_length, strV_length, ← SZ_eq]; exact hm
          · rw [e3]
            exact q.here st (.str _ (h1.append h2 hm))
    · cases e
  · split at e
    · rename_i xs ys hm
      cases e
      cases ra with
      | @tup a vs _ ha r1 =>
        cases rb with
        | @tup b ws _ hb r2 =>
          have l1 := r1.length
          have l2 := r2.length
          have emp : ∀ {zs : List PV} {us : List V}, VRs X.K m S.length H zs us → us = [] → zs = [] := fun r e => by
            subst e; cases r; rfl
          refine op_catA pins s σ H _ _ v u Q I rx ry ⟨a, b, vs, ws, rfl, rfl, ha, hb, by rw [← l1, ← l2, ← SZ_eq]; exact hm, fun e => ?_, fun _ e => ?_, fun _ _ p hp => ?_⟩
          · have := emp r1 e
            subst this
            exact q.here st (.tup hb r2)
          · have := emp r2 e
            subst this
            exact q.here st (by rw [List.append_nil]; exact .tup ha r1)
          · exact q.push st hp (VR.tupNew st hp (r1.append r2))
    · cases e
  · split at e
    · rename_i xs ys hm
      cases e
      cases ra with
      | @lst a vs _ ha r1 =>
        cases rb with
        | @lst b ws _ hb r2 =>
          have l1 := r1.length
          have l2 := r2.length
          exact op_catS pins s σ H _ _ v u Q I rx ry ⟨a, b, vs, ws, rfl, rfl, ha.sq, hb.sq, by rw [← l1, ← l2, ← SZ_eq]; exact hm, fun p hp => q.push st hp (VR.lstNew st hp (r1.append r2))⟩
    · cases e
  · split at e
    · rename_i xs n hm
      cases e; cases rb
      cases ra with
      | str _ h1 =>
        obtain ⟨n1, n2, n3⟩ := hm
        have hlen : (strV xs).length = xs.length := strV_length xs
        have e1 : Txt.mul (strV xs) n = strV (List.replicate n.toNat xs).flatten := by
          unfold Txt.mul
          rw [if_neg (by omega)]
          have fo : ∀ (k : Nat) (a : List Nat), (List.replicate k xs.toArray).foldl (· ++ ·) a.toArray = (a ++ (List.replicate k xs).flatten).toArray := by
            intro k
            induction k with
            | zero => intro a; simp
            | succ k ih =>
              intro a
              rw [List.replicate_succ, List.foldl_cons, List.append_toArray, ih, List.replicate_succ, List.flatten_cons, List.append_assoc]
          split
          · rename_i hc
            rw [Bool.or_eq_true] at hc
            rcases hc with hc | hc
            · have : n = 1 := by simpa using hc
              subst this
              simp [List.replicate]
            · have : xs.length = 0 := by rw [hlen] at hc; simpa using hc
              have : xs = [] := List.eq_nil_of_length_eq_zero this
              subst this
              have hz : (List.replicate n.toNat ([] : List Nat)).flatten = [] := by simp
              rw [hz]
          · show (⟨(List.replicate n.toNat xs.toArray).foldl (· ++ ·) #[]⟩ : Str) = ⟨(List.replicate n.toNat xs).flatten.toArray⟩
            have := fo n.toNat []
            rw [List.nil_append] at this
            rw [← this]
        have hfl : (List.replicate n.toNat xs).flatten.length = xs.length * n.toNat := by simp [Nat.mul_comm]
        have hok : PySem.MulOk (strV xs) n := by
          refine ⟨by rw [decide_eq_false (by omega), decide_eq_false (by omega)]; rfl, fun _ _ => ?_, fun _ _ => ?_⟩
          · rw [hlen]
            have hz : (xs.length : Int) ≤ 16777216 := by
              have := h1.1
              have e : SZ = 16777216 := rfl
              omega
            have : (16777216 : Int) ≤ (2 ^ 63 - 1) / n := by
              rw [Int.le_ediv_iff_mul_le (by omega)]
              have : (16777216 : Int) * n ≤ 16777216 * 1000000 := Int.mul_le_mul_of_nonneg_left n2 (by decide)
              omega
            omega
          · rw [hlen]
            have : xs.length * n.toNat ≤ sizeLine := by rw [← SZ_eq]; exact n3
            unfold PySem.Builtin.Str.tooLong
            simpa using this
        obtain ⟨tk, rfl⟩ := rx
        obtain ⟨tk2, rfl⟩ := ry
        refine PySem.SB.mul hok fun t' k => ⟨.str (Txt.mul (strV xs) n), H, I.tok _, ⟨_, rfl⟩, ?_⟩
        rw [e1]
        refine q.here st (.str _ ⟨by rw [hfl]; exact n3, fun c hc => ?_⟩)
        obtain ⟨l, hl, hcl⟩ := List.mem_flatten.mp hc
        rw [(List.mem_replicate.mp hl).2] at hcl
        exact h1.2 c hcl
    · cases e
  · split at e
    · rename_i xs n hm
      cases e; cases rb
      cases ra with
      | @tup a vs _ ha r1 =>
        obtain ⟨n1, n2, n3⟩ := hm
        have l1 := r1.length
        have rep : ∀ k : Nat, VRs X.K m S.length H (List.replicate k xs).flatten (List.replicate k vs).flatten := by
          intro k
          induction k with
          | zero => exact .nil
          | succ k ih => rw [List.replicate_succ, List.replicate_succ, List.flatten_cons, List.flatten_cons]; exact r1.append ih
        by_cases hx : xs = [] ∨ n = 1
        · have e1 : (List.replicate n.toNat xs).flatten = xs := by
            rcases hx with e | e
            · subst e; simp
            · subst e; simp
          have e2 : vs = [] ∨ n = 1 := hx.imp (fun e => by rw [e] at l1; exact List.eq_nil_of_length_eq_zero l1.symm) id
          refine op_repT1 pins s σ H _ _ v u Q I rx ry ⟨a, n, vs, rfl, rfl, ha, by omega, by omega, e2, ?_⟩
          rw [e1] at q
          exact q.here st (.tup ha r1)
        · have hv : vs ≠ [] := fun e => hx (.inl (by rw [e] at l1; exact List.eq_nil_of_length_eq_zero l1))
          by_cases h0 : n ≤ 0
          · refine op_repT0 pins s σ H _ _ v u Q I rx ry ⟨a, n, vs, rfl, rfl, ha, by omega, h0, hv, fun p hp => ?_⟩
            have e1 : n.toNat = 0 := by omega
            rw [e1] at q
            exact q.push st hp (VR.tupNew st hp .nil)
          · exact op_repT pins s σ H _ _ v u Q I rx ry ⟨a, n, vs, rfl, rfl, ha, hv, by omega, n2, by rw [← l1]; exact n3, fun p hp => q.push st hp (VR.tupNew st hp (rep n.toNat))⟩
    · cases e
  · split at e
    · rename_i xs n hm
      cases e; cases rb
      cases ra with
      | @lst a vs _ ha r1 =>
        obtain ⟨n1, n2, n3⟩ := hm
        have l1 := r1.length
        have rep : ∀ k : Nat, VRs X.K m S.length H (List.replicate k xs).flatten (List.replicate k vs).flatten := by
          intro k
          induction k with
          | zero => exact .nil
          | succ k ih => rw [List.replicate_succ, List.replicate_succ, List.flatten_cons, List.flatten_cons]; exact r1.append ih
        exact op_repS pins s σ H _ _ v u Q I rx ry ⟨a, n, vs, rfl, rfl, ha.sq, n1, n2, by rw [← l1]; exact n3, fun p hp => q.push st hp (VR.lstNew st hp (rep n.toNat))⟩
    · cases e
  · cases e
end
end MK

set_option linter.all false
set_option autoImplicit false
set_option Elab.async false
set_option maxRecDepth 100000
set_option maxHeartbeats 4000000
/-! MkCmp: comparisons, subscripts, slices. -/
namespace MK
open PySem PySem.Spec PyProof.Rows L2

mutual
def toD : PV → PyData
  | .non => .none
  | .bl b => .bool b
  | .int i => .int i
  | .str s => .str (strV s)
  | .tup xs => .tuple (toDs xs)
  | .lst xs => .list (toDs xs)
  | _ => .none
def toDs : List PV → List PyData
  | [] => []
  | x :: xs => toD x :: toDs xs
end
theorem toDs_map : ∀ xs : List PV, toDs xs = xs.map toD
  | [] => rfl
  | x :: xs => by rw [toDs, toDs_map xs]; rfl

section
variable {K : PySem.W.Frag} {m : Mp} {n : Nat} {H : Hp}
mutual
theorem VR.dp : ∀ {k : Nat} {x : PV} {v : V}, PV.plain k x = true → VR K m n H x v → Dp K H v (toD x)
  | _, _, _, _, .non => .non
  | _, _, _, _, .bl b => .bl b
  | _, _, _, _, .int i => .int i
  | _, _, _, _, .str s h => .str _
  | 0, _, _, p, .tup h r => by cases p
  | k + 1, _, _, p, .tup h r => .tup h (VRs.dp (k := k) p r)
  | 0, _, _, p, .lst h r => by cases p
  | k + 1, _, _, p, .lst h r => .lst h.sq (VRs.dp (k := k) p r)
  | 0, .ref _, _, p, _ => by cases p
  | _ + 1, .ref _, _, p, _ => by cases p
  | 0, .ty _, _, p, _ => by cases p
  | _ + 1, .ty _, _, p, _ => by cases p
theorem VRs.dp : ∀ {k : Nat} {xs : List PV} {vs : List V}, PV.plainAll k xs = true → VRs K m n H xs vs → DpAll K H vs (toDs xs)
  | _, _, _, _, .nil => .nil
  | k, x :: xs, _ :: _, p, .cons r t => by
    have p' : (PV.plain k x && PV.plainAll k xs) = true := p
    rw [Bool.and_eq_true] at p'
    exact .cons (VR.dp p'.1 r) (VRs.dp p'.2 t)
end
theorem canLay_str {s : List Nat} (h : okS s) : PyData.canLay0 (.str (strV s)) = true := by
  show PyData.strOk (strV s) = true
  unfold PyData.strOk
  show (strV s).cps.all (fun x => decide (x < 1114112)) = true
  rw [← Array.all_toList, strV_cps, List.all_eq_true]
  intro c hc
  exact decide_eq_true (h.2 c hc)
mutual
theorem VR.lay : ∀ {k : Nat} {x : PV} {v : V}, PV.plain k x = true → VR K m n H x v → (toD x).canLay0 = true ∧ (toD x).depth ≤ k
  | _, _, _, _, .non => ⟨rfl, Nat.zero_le _⟩
  | _, _, _, _, .bl b => ⟨rfl, Nat.zero_le _⟩
  | _, _, _, _, .int i => ⟨rfl, Nat.zero_le _⟩
  | _, _, _, _, .str s h => ⟨canLay_str h, Nat.zero_le _⟩
  | 0, _, _, p, .tup h r => by cases p
  | k + 1, _, _, p, .tup h r => by
    obtain ⟨h1, h2⟩ := VRs.lay (k := k) p r
    exact ⟨h1, Nat.succ_le_succ h2⟩
  | 0, _, _, p, .lst h r => by cases p
  | k + 1, _, _, p, .lst h r => by
    obtain ⟨h1, h2⟩ := VRs.lay (k := k) p r
    exact ⟨h1, Nat.succ_le_succ h2⟩
  | 0, .ref _, _, p, _ => by cases p
  | _ + 1, .ref _, _, p, _ => by cases p
  | 0, .ty _, _, p, _ => by cases p
  | _ + 1, .ty _, _, p, _ => by cases p
theorem VRs.lay : ∀ {k : Nat} {xs : List PV} {vs : List V}, PV.plainAll k xs = true → VRs K m n H xs vs → PyData.canLayAll0 (toDs xs) = true ∧ PyData.depthAll (toDs xs) ≤ k
  | _, _, _, _, .nil => ⟨rfl, Nat.zero_le _⟩
  | k, x :: xs, _ :: _, p, .cons r t => by
    have p' : (PV.plain k x && PV.plainAll k xs) = true := p
    rw [Bool.and_eq_true] at p'
    obtain ⟨a1, a2⟩ := VR.lay p'.1 r
    obtain ⟨b1, b2⟩ := VRs.lay p'.2 t
    refine ⟨?_, Nat.max_le.mpr ⟨a2, b2⟩⟩
    show ((toD x).canLay0 && PyData.canLayAll0 (toDs xs)) = true
    rw [a1, b1]
    rfl
end
theorem VR.shaped {x : PV} {v : V} (p : PV.plain DEEP x = true) (r : VR K m n H x v) : SeqAt.shaped (toD x) = true := by
  obtain ⟨h1, h2⟩ := VR.lay p r
  unfold SeqAt.shaped
  rw [h1, decide_eq_true (Nat.le_trans h2 (by decide))]
  rfl
end
theorem strV_beq (x y : List Nat) : (strV x == strV y) = (x == y) := by
  rw [Bool.eq_iff_iff, beq_iff_eq, beq_iff_eq]
  exact ⟨strV_inj, fun e => by rw [e]⟩
mutual
theorem eqv_toD : ∀ {j k : Nat} {x y : PV}, PV.plain j x = true → PV.plain k y = true → PyData.eqv (toD x) (toD y) = PV.eqv x y
  | _, _, .non, .non, _, _ => rfl
  | _, _, .non, .bl _, _, _ => rfl
  | _, _, .non, .int _, _, _ => rfl
  | _, _, .non, .str _, _, _ => rfl
  | _, _, .non, .tup _, _, _ => rfl
  | _, _, .non, .lst _, _, _ => rfl
  | _, _, .bl _, .non, _, _ => rfl
  | _, _, .bl _, .bl _, _, _ => rfl
  | _, _, .bl _, .int _, _, _ => rfl
  | _, _, .bl _, .str _, _, _ => rfl
  | _, _, .bl _, .tup _, _, _ => rfl
  | _, _, .bl _, .lst _, _, _ => rfl
  | _, _, .int _, .non, _, _ => rfl
  | _, _, .int _, .bl _, _, _ => rfl
  | _, _, .int _, .int _, _, _ => rfl
  | _, _, .int _, .str _, _, _ => rfl
  | _, _, .int _, .tup _, _, _ => rfl
  | _, _, .int _, .lst _, _, _ => rfl
  | _, _, .str _, .non, _, _ => rfl
  | _, _, .str _, .bl _, _, _ => rfl
  | _, _, .str _, .int _, _, _ => rfl
  | _, _, .str x, .str y, _, _ => strV_beq x y
  | _, _, .str _, .tup _, _, _ => rfl
  | _, _, .str _, .lst _, _, _ => rfl
  | _, _, .tup _, .non, _, _ => rfl
  | _, _, .tup _, .bl _, _, _ => rfl
  | _, _, .tup _, .int _, _, _ => rfl
  | _, _, .tup _, .str _, _, _ => rfl
  | 0, _, .tup _, .tup _, p, _ => by cases p
  | _ + 1, 0, .tup _, .tup _, _, q => by cases q
  | j + 1, k + 1, .tup xs, .tup ys, p, q => eqv_toDs (j := j) (k := k) (xs := xs) (ys := ys) p q
  | _, _, .tup _, .lst _, _, _ => rfl
  | _, _, .lst _, .non, _, _ => rfl
  | _, _, .lst _, .bl _, _, _ => rfl
  | _, _, .lst _, .int _, _, _ => rfl
  | _, _, .lst _, .str _, _, _ => rfl
  | _, _, .lst _, .tup _, _, _ => rfl
  | 0, _, .lst _, .lst _, p, _ => by cases p
  | _ + 1, 0, .lst _, .lst _, _, q => by cases q
  | j + 1, k + 1, .lst xs, .lst ys, p, q => eqv_toDs (j := j) (k := k) (xs := xs) (ys := ys) p q
  | 0, _, .ref _, _, p, _ => by cases p
  | _ + 1, _, .ref _, _, p, _ => by cases p
  | 0, _, .ty _, _, p, _ => by cases p
  | _ + 1, _, .ty _, _, p, _ => by cases p
  | _, 0, _, .ref _, _, q => by cases q
  | _, _ + 1, _, .ref _, _, q => by cases q
  | _, 0, _, .ty _, _, q => by cases q
  | _, _ + 1, _, .ty _, _, q => by cases q
theorem eqv_toDs : ∀ {j k : Nat} {xs ys : List PV}, PV.plainAll j xs = true → PV.plainAll k ys = true → PyData.eqvAll (toDs xs) (toDs ys) = PV.eqvAll xs ys
  | _, _, [], [], _, _ => rfl
  | _, _, [], _ :: _, _, _ => rfl
  | _, _, _ :: _, [], _, _ => rfl
  | j, k, x :: xs, y :: ys, p, q => by
    have p' : (PV.plain j x && PV.plainAll j xs) = true := p
    have q' : (PV.plain k y && PV.plainAll k ys) = true := q
    rw [Bool.and_eq_true] at p' q'
    show (PyData.eqv (toD x) (toD y) && PyData.eqvAll (toDs xs) (toDs ys)) = (PV.eqv x y && PV.eqvAll xs ys)
    rw [eqv_toD p'.1 q'.1, eqv_toDs p'.2 q'.2]
end

section
variable {X : Cx}
theorem in_tupD (hu : X.A.units + 65 < cLine) : OpR X (compareOp .In) (fun x y H Q => ∃ d ds, Dp X.K H x d ∧ Dp X.K H y (.tuple ds) ∧ SeqAt.shaped d = true ∧ SeqAt.shaped (.tuple ds) = true ∧ Q (.bl (ds.any fun z => PyData.eqv z d)) H) := by
  intro pins s σ H x y v u Q I rx ry h
  obtain ⟨d, ds, hd, he, sd, se, q⟩ := h
  obtain ⟨as, r1⟩ := Dp.reads I d x v hd rx
  obtain ⟨bs, r2⟩ := Dp.reads I (.tuple ds) y u he ry
  exact SeqAt.in_tuple_reads r2 r1 (SeqAt.canLay_of_shaped se) (SeqAt.canLay_of_shaped sd) (room_in_shaped sd hu) ⟨.bl _, H, I, rfl, q⟩
theorem notIn_tupD (hu : X.A.units + 65 < cLine) : OpR X (compareOp .NotIn) (fun x y H Q => ∃ d ds, Dp X.K H x d ∧ Dp X.K H y (.tuple ds) ∧ SeqAt.shaped d = true ∧ SeqAt.shaped (.tuple ds) = true ∧ Q (.bl (!ds.any fun z => PyData.eqv z d)) H) := by
  intro pins s σ H x y v u Q I rx ry h
  obtain ⟨d, ds, hd, he, sd, se, q⟩ := h
  obtain ⟨as, r1⟩ := Dp.reads I d x v hd rx
  obtain ⟨bs, r2⟩ := Dp.reads I (.tuple ds) y u he ry
  exact SeqAt.notIn_tuple_reads r2 r1 (SeqAt.canLay_of_shaped se) (SeqAt.canLay_of_shaped sd) (room_in_shaped sd hu) ⟨.bl _, H, I, rfl, q⟩

theorem any_toD {x : PV} {k j : Nat} (hx : PV.plain k x = true) : ∀ {ys : List PV}, PV.plainAll j ys = true → (toDs ys).any (fun z => PyData.eqv z (toD x)) = memV x ys
  | [], _ => rfl
  | y :: ys, p => by
    have p' : (PV.plain j y && PV.plainAll j ys) = true := p
    rw [Bool.and_eq_true] at p'
    show (PyData.eqv (toD y) (toD x) || (toDs ys).any (fun z => PyData.eqv z (toD x))) = (PV.eqv y x || memV x ys)
    rw [eqv_toD p'.1 hx, any_toD hx p'.2]

/-- the shape of a rule for a comparison -/
def rC (K : PySem.W.Frag) (op : CO) : R2 := fun x y H Q => ∃ S m u v w, StoreR K S m H ∧ VR K m S.length H u x ∧ VR K m S.length H v y ∧ evCmp S op u v = some w ∧ Q (.bl w) H
theorem plainAll_deep {ys : List PV} (h : PV.plainAll DEEP ys = true) (h2 : True) : True := trivial
/-- x in y, as the evaluator tells it -/
theorem evIn_cases {S : Store} {a b : PV} {w : Bool} (h : evIn S a b = some w) :
    (∃ c y, a = .str [c] ∧ b = .str y ∧ w = decide (c ∈ y)) ∨ (∃ ys, a.plain DEEP = true ∧ seqOf S b = some ys ∧ PV.plainAll DEEP ys = true ∧ w = memV a ys) := by
  unfold evIn at h
  split at h
  · cases h; exact .inl ⟨_, _, rfl, rfl, rfl⟩
  · split at h
    · rename_i h1 h2
      split at h
      · rename_i h3
        cases h; exact .inr ⟨_, h1, h2, h3, rfl⟩
      · cases h
    · cases h
theorem shaped_seq {K : PySem.W.Frag} {m : Mp} {n : Nat} {H : Hp} {ys : List PV} {vs : List V} (p : PV.plainAll DEEP ys = true) (r : VRs K m n H ys vs) : SeqAt.shaped (.list (toDs ys)) = true ∧ SeqAt.shaped (.tuple (toDs ys)) = true := by
  obtain ⟨h1, h2⟩ := VRs.lay p r
  have h3 : PyData.depthAll (toDs ys) + 1 ≤ 64 := by
    have : DEEP = 60 := rfl
    omega
  constructor <;>
  · unfold SeqAt.shaped
    show (PyData.canLayAll0 (toDs ys) && decide (PyData.depthAll (toDs ys) + 1 ≤ 64)) = true
    rw [h1, decide_eq_true h3]
    rfl
theorem op_cmp (op : CO) (hu : X.A.units + 65 < cLine) : OpR X (compareOp (cmpOf op)) (rC X.K op) := by
  intro pins s σ H x y v u Q I rx ry h
  obtain ⟨S, m, a, b, w, st, ra, rb, e, q⟩ := h
  unfold evCmp at e
  split at e
  · split at e
    · rename_i hp
      cases e
      rw [Bool.and_eq_true] at hp
      refine op_eqD (by omega) pins s σ H _ _ v u Q I rx ry ⟨_, _, VR.dp hp.1 ra, VR.dp hp.2 rb, VR.shaped hp.1 ra, VR.shaped hp.2 rb, ?_⟩
      rw [eqv_toD hp.1 hp.2]
      exact q
    · cases e
  · split at e
    · rename_i hp
      cases e
      rw [Bool.and_eq_true] at hp
      refine op_neD (by omega) pins s σ H _ _ v u Q I rx ry ⟨_, _, VR.dp hp.1 ra, VR.dp hp.2 rb, VR.shaped hp.1 ra, VR.shaped hp.2 rb, ?_⟩
      rw [eqv_toD hp.1 hp.2]
      exact q
    · cases e
  · cases e; cases ra; cases rb
    exact op_lt pins s σ H _ _ v u Q I rx ry ⟨_, _, rfl, rfl, q⟩
  · cases e; cases ra; cases rb
    exact op_le pins s σ H _ _ v u Q I rx ry ⟨_, _, rfl, rfl, q⟩
  · cases e; cases ra; cases rb
    exact op_gt pins s σ H _ _ v u Q I rx ry ⟨_, _, rfl, rfl, q⟩
  · cases e; cases ra; cases rb
    exact op_ge pins s σ H _ _ v u Q I rx ry ⟨_, _, rfl, rfl, q⟩
  · cases rb
    refine op_isN pins s σ H _ _ v u Q I rx ry ⟨rfl, ?_⟩
    cases ra <;> (cases e; simpa using q)
  · cases rb
    refine op_notN pins s σ H _ _ v u Q I rx ry ⟨rfl, ?_⟩
    cases ra <;> (cases e; simpa using q)
  · rcases evIn_cases e with ⟨c, ys, rfl, rfl, rfl⟩ | ⟨ys, hp, hs, hps, rfl⟩
    · cases ra; cases rb
      refine op_in_sign pins s σ H _ _ v u Q I rx ry ⟨c, strV ys, rfl, rfl, ?_⟩
      rw [strV_cps]
      exact q
    · cases rb with
      | tup ht r =>
        cases hs
        refine in_tupD hu pins s σ H _ _ v u Q I rx ry ⟨_, toDs _, VR.dp hp ra, .tup ht (VRs.dp hps r), VR.shaped hp ra, (shaped_seq hps r).2, ?_⟩
        rw [any_toD hp hps]
        exact q
      | lst hl r =>
        cases hs
        refine op_inD hu pins s σ H _ _ v u Q I rx ry ⟨_, toDs _, VR.dp hp ra, .lst hl.sq (VRs.dp hps r), VR.shaped hp ra, (shaped_seq hps r).1, ?_⟩
        rw [any_toD hp hps]
        exact q
      | ref hk =>
        obtain ⟨a, vs, e2, hq, r⟩ := VR.listOf st (VR.ref hk) hs
        rw [e2] at ry
        refine op_inD hu pins s σ H _ _ v u Q I rx ry ⟨_, toDs _, VR.dp hp ra, .lst hq (VRs.dp hps r), VR.shaped hp ra, (shaped_seq hps r).1, ?_⟩
        rw [any_toD hp hps]
        exact q
      | non => exact nomatch hs
      | bl _ => exact nomatch hs
      | int _ => exact nomatch hs
      | str _ _ => exact nomatch hs
      | ty _ => exact nomatch hs
  · obtain ⟨w', e', rfl⟩ := Option.map_eq_some_iff.mp e
    rcases evIn_cases e' with ⟨c, ys, rfl, rfl, rfl⟩ | ⟨ys, hp, hs, hps, rfl⟩
    · cases ra; cases rb
      refine op_notIn_sign pins s σ H _ _ v u Q I rx ry ⟨c, strV ys, rfl, rfl, ?_⟩
      rw [strV_cps]
      exact q
    · cases rb with
      | tup ht r =>
        cases hs
        refine notIn_tupD hu pins s σ H _ _ v u Q I rx ry ⟨_, toDs _, VR.dp hp ra, .tup ht (VRs.dp hps r), VR.shaped hp ra, (shaped_seq hps r).2, ?_⟩
        rw [any_toD hp hps]
        exact q
      | lst hl r =>
        cases hs
        refine op_notInD hu pins s σ H _ _ v u Q I rx ry ⟨_, toDs _, VR.dp hp ra, .lst hl.sq (VRs.dp hps r), VR.shaped hp ra, (shaped_seq hps r).1, ?_⟩
        rw [any_toD hp hps]
        exact q
      | ref hk =>
        obtain ⟨a, vs, e2, hq, r⟩ := VR.listOf st (VR.ref hk) hs
        rw [e2] at ry
        refine op_notInD hu pins s σ H _ _ v u Q I rx ry ⟨_, toDs _, VR.dp hp ra, .lst hq (VRs.dp hps r), VR.shaped hp ra, (shaped_seq hps r).1, ?_⟩
        rw [any_toD hp hps]
        exact q
      | non => exact nomatch hs
      | bl _ => exact nomatch hs
      | int _ => exact nomatch hs
      | str _ _ => exact nomatch hs
      | ty _ => exact nomatch hs
  · cases e
end
end MK

set_option linter.all false
set_option autoImplicit false
set_option Elab.async false
set_option maxRecDepth 100000
set_option maxHeartbeats 4000000
/-! MkSrt: sorted of a text, a text from behind. -/
namespace MK
open PySem PySem.Spec PyProof.Rows L2
/-! ### the order of texts -/
theorem ltC_irr : ∀ a : List Nat, ltCps a a = false
  | [] => rfl
  | x :: r => by show (decide (x < x) || (x == x && ltCps r r)) = false; rw [ltC_irr r]; simp
theorem ltC_total : ∀ a b : List Nat, ltCps a b = false → ltCps b a = false → a = b
  | [], [], _, _ => rfl
  | [], _ :: _, h, _ => by cases h
  | _ :: _, [], _, h => by cases h
  | x :: r, y :: t, h1, h2 => by
    have h1 : (decide (x < y) || (x == y && ltCps r t)) = false := h1
    have h2 : (decide (y < x) || (y == x && ltCps t r)) = false := h2
    simp only [Bool.or_eq_false_iff, decide_eq_false_iff_not] at h1 h2
    have e : x = y := by omega
    subst e
    rw [beq_self_eq_true, Bool.true_and] at h1 h2
    rw [ltC_total r t h1.2 h2.2]
/-- a < b < c -/
theorem ltC_trans : ∀ a b c : List Nat, ltCps a b = true → ltCps b c = true → ltCps a c = true
  | _, [], [], _, h => by cases h
  | [], [], _ :: _, h, _ => by cases h
  | _ :: _, [], _, h, _ => by cases h
  | _, _ :: _, [], _, h => by cases h
  | [], _ :: _, _ :: _, _, _ => rfl
  | x :: r, y :: t, z :: u, h1, h2 => by
    have g1 : (decide (x < y) || (x == y && ltCps r t)) = true := h1
    have g2 : (decide (y < z) || (y == z && ltCps t u)) = true := h2
    clear h1 h2
    show (decide (x < z) || (x == z && ltCps r u)) = true
    simp only [Bool.or_eq_true, Bool.and_eq_true, decide_eq_true_eq, beq_iff_eq] at g1 g2 ⊢
    rcases g1 with p | ⟨e, p⟩ <;> rcases g2 with q | ⟨e', q⟩
    · exact .inl (by omega)
    · exact .inl (by omega)
    · exact .inl (by omega)
    · exact .inr ⟨by omega, ltC_trans r t u p q⟩
def leC (a b : List Nat) : Bool := !ltCps b a
theorem leC_trans {a b c : List Nat} (h1 : leC a b = true) (h2 : leC b c = true) : leC a c = true := by
  unfold leC at *
  simp only [Bool.not_eq_true'] at *
  cases h : ltCps c a with
  | false => rfl
  | true =>
    exfalso
    cases hab : ltCps a b with
    | true =>
      have := ltC_trans c a b h hab
      rw [h2] at this; cases this
    | false =>
      have := ltC_total a b hab h1
      subst this
      rw [h2] at h; cases h
theorem sortedS_pw : ∀ {l : List Str}, sortedS l = true → l.Pairwise fun a b => leC a.cps.toList b.cps.toList = true
  | [], _ => .nil
  | [x], _ => by simp
  | x :: y :: r, h => by
    have h : (!ltCps y.cps.toList x.cps.toList && risingS y r) = true := h
    rw [Bool.and_eq_true] at h
    have hxy : leC x.cps.toList y.cps.toList = true := h.1
    have ih := sortedS_pw (l := y :: r) h.2
    refine .cons (fun z hz => ?_) ih
    rcases List.mem_cons.mp hz with rfl | hz
    · exact hxy
    · exact leC_trans hxy ((List.pairwise_cons.mp ih).1 z hz)
theorem srt_uniq {xs ys zs : List Str} (h1 : ys.Perm xs) (h2 : sortedS ys = true) (h3 : zs.Perm xs) (h4 : zs.Pairwise fun a b => leC a.cps.toList b.cps.toList = true) : ys = zs := by
  refine List.Perm.eq_of_pairwise (le := fun a b : Str => leC a.cps.toList b.cps.toList = true) (fun a b _ _ p q => ?_) (sortedS_pw h2) h4 (h1.trans h3.symm)
  unfold leC at p q
  simp only [Bool.not_eq_true'] at p q
  have := ltC_total _ _ q p
  obtain ⟨⟨a⟩⟩ := a
  obtain ⟨⟨b⟩⟩ := b
  simp only at this
  rw [this]
/-! ### sorted(text) -/
section
variable {X : Cx}
theorem call_sortedTxt (hcalm : X.calm = true) : CallR X (.builtin "sorted") (fun xs H Q => ∃ z : Str, xs = [.str z] ∧ z.length < 64 ∧
    ∀ ys p, ys.Perm (z.cps.toList.map fun c => strV [c]) → sortedS ys = true → H p = none → Q (.ref p) (upd H p (.lst (ys.map V.str)))) := by
  intro pins s σ H xs us Q I r q
  obtain ⟨z, ex, h64, q⟩ := q
  subst ex
  obtain ⟨u, eu, rx⟩ := vals1 r
  subst eu
  obtain ⟨t, rfl⟩ := rx
  have hzl : z.cps.size = z.length := rfl
  refine Calls.call_function_entry PyProof.Rows.kind_sorted PyProof.Rows.plain_sorted PyProof.Rows.entry_sorted (PyProof.Rows.args_sorted1 _) ?_
  unfold Builtin.«sorted»
  refine wpAny_bind (m := checkCount "sorted" 1 1 _) (wpAny_pure ?_)
  refine wpAny_bind (wpAny_collect_str (A := X.A.in1) (I.ok.hd hcalm) z t (fun s' acc hk hg hd hos hacc => ?_) (by rw [sizeLine_eq]; omega))
  have hal : acc.toList.length = (z.cps.toList.map fun c => strV [c]).length := by rw [Array.length_toList, hacc.1, List.length_map, Array.length_toList]
  have hl2 : (z.cps.toList.map fun c => strV [c]).length = z.length := by rw [List.length_map, Array.length_toList]; rfl
  have hS : StrsAre acc.toList (z.cps.toList.map fun c => strV [c]) := L2.strs_at hal fun j v e => by
    obtain ⟨c, u, e1, e2⟩ := hacc.2 j v (by rw [← Array.getElem?_toList]; exact e)
    refine ⟨strV [c], u, ?_, e2⟩
    rw [List.getElem?_map, Array.getElem?_toList, e1]
    rfl
  obtain ⟨h', g', d', tk, os'⟩ := s'
  dsimp only at hk hg hd hos
  subst hg hos hd
  have I1 : Inv X pins σ H { s with heap := h', toks := tk } := I.kept hk
  refine wpAny_bind (wpAny_newList ?_ (by rw [hal, hl2, sizeLine_eq]; omega))
  have hoL : (h'.push (seqObj "list" acc.toList.toArray 0)).get? h'.objs.size = some (seqObj "list" acc.toList.toArray 0) := Heap.get?_push_size _ rfl
  show wpAny _ _ _ _ _ { s with heap := h'.push (seqObj "list" acc.toList.toArray 0), toks := tk }
  refine wpAny_bind (wpAny_holding (wpAny_call_entry PyProof.Rows.slot_list_sort ⟨_, hoL, rfl⟩ PyProof.Rows.entry_list_sort
    (list_sort_treeK strKind_oneLt (s := { s with heap := h'.push (seqObj "list" acc.toList.toArray 0), toks := tk }) hoL hS.keysOf (fun v₁ v₂ rest e => keyKind_strs (by rw [← e]; exact hS)) (by rw [hal, hl2]; exact h64) fun st' hp hs => ⟨_, rfl, ?_⟩)
    (PyProof.Rows.args_list_sort _)))
  obtain ⟨ys, g1, g2, g3⟩ := sorted_out_str hS hp hs
  obtain ⟨e', he'⟩ := PyProof.Rows.sortedHeap_at (vs := acc.toList) (out := (arrOf st').map (·.2)) hoL
  have hlen : (ys.map V.str).length ≤ sizeLine := by
    rw [List.length_map, g2.length_eq, hl2]
    exact Nat.le_trans (Nat.le_of_lt h64) (by decide)
  refine wpAny_pure ⟨_, rfl, .ref h'.objs.size, upd H h'.objs.size (.lst (ys.map V.str)), I1.laid (t' := tk) (fun b u e => ?_) (Nat.le_refl _)
    (show ObjOk X.prog X.w _ _ _ (.lst (ys.map V.str)) from ⟨hlen, ((arrOf st').map (·.2)).toList, e', vals_of_strs g1, by rw [Array.toArray_toList]; exact he'⟩), rfl, q ys _ g2 g3 (I1.hok.fresh (Nat.le_refl _))⟩
  have hb : b < h'.objs.size := Heap.lt_size e
  rw [PyProof.Rows.sortedHeap_old (Nat.ne_of_lt hb) (by rw [size_push']; exact Nat.lt_succ_of_lt hb)]
  exact Heap.get?_push_of_some _ e
/-! ### text[::-1] -/
theorem rev_text (x : Str) (u : Tok) : Txt.sliceBy x none none (-1, u) = strV x.cps.toList.reverse := by
  have h := PyProof.Rows.step_rev_list x u
  have e : ((List.range x.length).map fun k => x.cps.getD (x.length - 1 - k) 0) = x.cps.toList.reverse := by
    apply List.ext_getElem
    · rw [List.length_map, List.length_range, List.length_reverse, Array.length_toList]; rfl
    · intro i h1 h2
      rw [List.length_map, List.length_range] at h1
      rw [List.getElem_map, List.getElem_range, List.getElem_reverse, Array.getD]
      have h3 : x.length - 1 - i < x.cps.size := by show _ < x.length; omega
      rw [dif_pos h3, Array.getElem_toList]
      rfl
  rw [e] at h
  rw [← strV_of (Txt.sliceBy x none none (-1, u)), h]
def tRevS (te : TE) : TE := fun σ H Q => te σ H fun x H1 => ∃ z : Str, x = .str z ∧ z.length ≤ sizeLine ∧ Q (.str (strV z.cps.toList.reverse)) H1
theorem pe_revS {e : Expr} {te : TE} {k : Nat} {p1 p2 p3 pos : Pos} (he : PE X e te) : PE X (.Subscript e (.Slice none none (some (.UnaryOp .USub (.Constant (.int 1) k p1) p2)) p3) pos) (tRevS te) := by
  refine ⟨fun pins s σ H Q I h => ?_⟩
  refine Subscript_ (thn (he.run pins s σ H _ I h) fun v s1 ⟨x, H1, I1, r1, q1⟩ => ?_)
  obtain ⟨z, ex, hz, q⟩ := q1
  subst ex
  obtain ⟨t, rfl⟩ := r1
  have hst : PO X (some (.UnaryOp .USub (.Constant (.int 1) k p1) p2)) (tPart (tUn (rU fun i => .int (-i)) (tC (.int 1)))) := po_some (pe_un un_neg pe_int)
  refine wpAny_Slice (thn (po_none.run pins s1 σ H1 (fun o H2 => o = none ∧ H2 = H1) I1 ⟨rfl, rfl⟩) fun vl s2 ⟨l, H2, I2, pl, el, e2⟩ => ?_)
  subst el e2
  refine thn (po_none.run pins s2 σ H2 (fun o H3 => o = none ∧ H3 = H2) I2 ⟨rfl, rfl⟩) fun vu s3 ⟨u, H3, I3, pu, eu, e3⟩ => ?_
  subst eu e3
  refine thn (hst.run pins s3 σ H3 (fun o H4 => o = some (-1) ∧ H4 = H3) I3 ⟨1, rfl, -1, rfl, rfl, rfl⟩) fun vs s4 ⟨o, H4, I4, ps, eo, e4⟩ => ?_
  subst eo e4
  have I5 : Inv X pins σ H4 { s4 with heap := s4.heap.push { cls := .type "slice", data := .fields #[vl, vu, vs] } } := I4.kept (t' := s4.toks) fun b ob q => Heap.get?_push_of_some _ q
  cases pl
  cases pu
  obtain ⟨us, rfl⟩ : ∃ us, vs = .int (-1) us := by
    cases ps
    exact ⟨_, rfl⟩
  show wpAny (model X.prog X.w) X.A (subscriptTail e (.Slice none none (some (.UnaryOp .USub (.Constant (.int 1) k p1) p2)) p3) (.str z t) (.ref s4.heap.objs.size)) (EP X pins σ Q) X.xe { s4 with heap := s4.heap.push { cls := .type "slice", data := .fields #[.none, .none, .int (-1) us] } }
  refine tail_any (ops := [.ref s4.heap.objs.size, .str z t]) (typeIs_str _ _ _) (PySem.F.slot_str_getitem.lookup) ?_ (by with_unfolding_all rfl)
  refine wpAny_getItem_str_slice (l := none) (u := none) (st := some (-1, us)) ⟨_, Heap.get?_push_size _ rfl, rfl, rfl⟩ rfl ?_
  refine post_val_or_str (y := z) (z := _) ⟨Nat.le_trans (Txt.sliceBy_le z none none (-1, us) (show (-1 : Int) ≠ 0 by decide)) hz, fun t' c => ?_⟩
  have hq := q
  rw [← rev_text z us] at hq
  exact ⟨.str (Txt.sliceBy z none none (-1, us)), H4, I5.tok _, ⟨t', rfl⟩, hq⟩
end
/-! ### the evaluator's sorting -/
theorem insI_perm (x : Int) : ∀ l : List Int, (insI x l).Perm (x :: l)
  | [] => .refl _
  | y :: r => by
    unfold insI
    split
    · exact .refl _
    · exact ((insI_perm x r).cons y).trans (.swap x y r)
theorem srtI_perm : ∀ l : List Int, (srtI l).Perm l
  | [] => .refl _
  | x :: r => (insI_perm x (srtI r)).trans ((srtI_perm r).cons x)
theorem insI_pw (x : Int) : ∀ l : List Int, l.Pairwise (· ≤ ·) → (insI x l).Pairwise (· ≤ ·)
  | [], _ => by simp [insI]
  | y :: r, h => by
    unfold insI
    split
    · rename_i hxy
      refine .cons (fun z hz => ?_) h
      rcases List.mem_cons.mp hz with rfl | hz
      · exact hxy
      · exact Int.le_trans hxy ((List.pairwise_cons.mp h).1 z hz)
    · rename_i hxy
      refine .cons (fun z hz => ?_) (insI_pw x r (List.pairwise_cons.mp h).2)
      rcases List.mem_cons.mp ((insI_perm x r).mem_iff.mp hz) with rfl | hz
      · omega
      · exact (List.pairwise_cons.mp h).1 z hz
theorem srtI_pw : ∀ l : List Int, (srtI l).Pairwise (· ≤ ·)
  | [] => .nil
  | x :: r => insI_pw x _ (srtI_pw r)
theorem srtI_uniq {ns ns' : List Int} (h1 : ns'.Perm ns) (h2 : ns'.Pairwise (· ≤ ·)) : ns' = srtI ns :=
  List.Perm.eq_of_pairwise (le := fun a b : Int => a ≤ b) (fun a b _ _ p q => Int.le_antisymm p q) h2 (srtI_pw ns) (h1.trans (srtI_perm ns).symm)
theorem insC_perm (x : Nat) : ∀ l : List Nat, (insC x l).Perm (x :: l)
  | [] => .refl _
  | y :: r => by
    unfold insC
    split
    · exact .refl _
    · exact ((insC_perm x r).cons y).trans (.swap x y r)
theorem srtC_perm : ∀ l : List Nat, (srtC l).Perm l
  | [] => .refl _
  | x :: r => (insC_perm x (srtC r)).trans ((srtC_perm r).cons x)
theorem insC_pw (x : Nat) : ∀ l : List Nat, l.Pairwise (· ≤ ·) → (insC x l).Pairwise (· ≤ ·)
  | [], _ => by simp [insC]
  | y :: r, h => by
    unfold insC
    split
    · rename_i hxy
      refine .cons (fun z hz => ?_) h
      rcases List.mem_cons.mp hz with rfl | hz
      · exact hxy
      · exact Nat.le_trans hxy ((List.pairwise_cons.mp h).1 z hz)
    · rename_i hxy
      refine .cons (fun z hz => ?_) (insC_pw x r (List.pairwise_cons.mp h).2)
      rcases List.mem_cons.mp ((insC_perm x r).mem_iff.mp hz) with rfl | hz
      · omega
      · exact (List.pairwise_cons.mp h).1 z hz
theorem srtC_pw : ∀ l : List Nat, (srtC l).Pairwise (· ≤ ·)
  | [] => .nil
  | x :: r => insC_pw x _ (srtC_pw r)
theorem srtC_uniq {s : List Nat} {ys : List Str} (h1 : ys.Perm (s.map fun c => strV [c])) (h2 : sortedS ys = true) : ys = (srtC s).map fun c => strV [c] := by
  refine srt_uniq h1 h2 ((srtC_perm s).map _) ?_
  rw [List.pairwise_map]
  refine (srtC_pw s).imp fun {a b} hab => ?_
  show (!(decide (b < a) || (b == a && ltCps [] []))) = true
  have : ltCps [] [] = false := rfl
  rw [this, Bool.and_false, Bool.or_false, decide_eq_false (by omega)]
  rfl
end MK

set_option linter.all false
set_option autoImplicit false
set_option Elab.async false
set_option maxRecDepth 100000
set_option maxHeartbeats 4000000
/-! MkBlt: subscripts, slices, built-ins, methods. -/
namespace MK
open PySem PySem.Spec PyProof.Rows L2

theorem clip_sIx (n d : Nat) (o : Option Int) : HT.sIx n d o = clip n d o := by
  cases o <;> rfl
theorem cutV_eq (xs : List V) (lo hi : Option Int) : cutV xs lo hi = cut xs lo hi := by
  unfold cutV cut
  rw [clip_sIx, clip_sIx]
theorem cutS_eq (s : List Nat) (lo hi : Option Int) : cutS (strV s) lo hi = strV (cut s lo hi) := by
  unfold cutS cut
  rw [strV_length, strV_cps, clip_sIx, clip_sIx]
  rfl
theorem atI_of {α : Type} {xs : List α} {i : Int} {x : α} (h : ixAt xs i = some x) : atI xs i = some x := by
  unfold ixAt at h
  unfold atI ixN
  split at h
  · rename_i h0
    rw [if_pos h0]
    have hl := (List.getElem?_eq_some_iff.mp h).1
    rw [if_pos (by omega)]
    exact h
  · rename_i h0
    rw [if_neg h0]
    split at h
    · rename_i h1
      rw [if_pos h1]
      exact h
    · cases h
section
variable {K : PySem.W.Frag} {m : Mp} {n : Nat} {H : Hp}
theorem VRs.ix {xs : List PV} {vs : List V} {i : Int} {x : PV} (r : VRs K m n H xs vs) (h : ixAt xs i = some x) : ∃ v, atI vs i = some v ∧ VR K m n H x v := by
  have hl := r.length
  unfold ixAt at h
  split at h
  · rename_i h0
    obtain ⟨v, e, rv⟩ := r.get h
    exact ⟨v, atI_of (by unfold ixAt; rw [if_pos h0]; exact e), rv⟩
  · rename_i h0
    split at h
    · rename_i h1
      obtain ⟨v, e, rv⟩ := r.get h
      exact ⟨v, atI_of (by unfold ixAt; rw [if_neg h0, if_pos (by omega), ← hl]; exact e), rv⟩
    · cases h
theorem VRs.cut {xs : List PV} {vs : List V} (lo hi : Option Int) (r : VRs K m n H xs vs) : VRs K m n H (cut xs lo hi) (cut vs lo hi) := by
  unfold MK.cut
  rw [← r.length]
  exact (r.drop _).take _
theorem VRs.strs : ∀ {xs : List PV} {vs : List V} {ss : List (List Nat)}, VRs K m n H xs vs → strsOf xs = some ss → vs = (ss.map strV).map V.str ∧ ∀ s ∈ ss, okS s
  | [], _, ss, .nil, h => by cases h; exact ⟨rfl, fun s hs => by cases hs⟩
  | x :: xs, _ :: _, ss, .cons r t, h => by
    cases r with
    | str s hs =>
      obtain ⟨r, e, rfl⟩ := Option.map_eq_some_iff.mp (show (strsOf xs).map (s :: ·) = some ss from h)
      obtain ⟨e1, e2⟩ := VRs.strs t e
      refine ⟨by rw [e1]; rfl, fun z hz => ?_⟩
      rcases List.mem_cons.mp hz with rfl | hz
      · exact hs
      · exact e2 z hz
    | _ => exact nomatch h
theorem VRs.ints : ∀ {xs : List PV} {vs : List V} {ss : List Int}, VRs K m n H xs vs → intsOf xs = some ss → vs = ss.map V.int
  | [], _, ss, .nil, h => by cases h; rfl
  | x :: xs, _ :: _, ss, .cons r t, h => by
    cases r with
    | int s =>
      obtain ⟨r, e, rfl⟩ := Option.map_eq_some_iff.mp (show (intsOf xs).map (s :: ·) = some ss from h)
      rw [VRs.ints t e]
      rfl
    | _ => exact nomatch h
theorem VRs.bls : ∀ {xs : List PV} {vs : List V} {ss : List Bool}, VRs K m n H xs vs → blsOf xs = some ss → vs = ss.map V.bl
  | [], _, ss, .nil, h => by cases h; rfl
  | x :: xs, _ :: _, ss, .cons r t, h => by
    cases r with
    | bl s =>
      obtain ⟨r, e, rfl⟩ := Option.map_eq_some_iff.mp (show (blsOf xs).map (s :: ·) = some ss from h)
      rw [VRs.bls t e]
      rfl
    | _ => exact nomatch h
end

section
variable {X : Cx}
/-! ### subscripts -/
def rI (K : PySem.W.Frag) : R2 := fun x y H Q => ∃ S m u v w, StoreR K S m H ∧ VR K m S.length H u x ∧ VR K m S.length H v y ∧ evIx S u v = some w ∧ PEnd K S m H w Q
theorem ix_ev : IxR X (rI X.K) := by
  intro value slice pins s σ H x y v u Q I rx ry h hs
  obtain ⟨S, m, a, b, w, st, ra, rb, e, q⟩ := h
  unfold evIx at e
  split at e
  · rename_i z i
    obtain ⟨c, e1, rfl⟩ := Option.map_eq_some_iff.mp e
    have e0 := e1
    cases ra with
    | str _ hs1 =>
      cases rb
      have hm : c ∈ z := by
        unfold ixAt at e0
        split at e0
        · exact List.mem_of_getElem? e0
        · split at e0
          · exact List.mem_of_getElem? e0
          · cases e0
      exact ix_str value slice pins s σ H _ _ v u Q I rx ry ⟨strV z, _, c, rfl, rfl, by rw [strV_length, ← SZ_eq]; exact hs1.1, by rw [strV_cps]; exact atI_of e1, q.here st (.str [c] (hs1.one hm))⟩ hs
  · cases ra with
    | tup ht r =>
      cases rb
      obtain ⟨z, e1, r1⟩ := r.ix e
      exact ix_tup value slice pins s σ H _ _ v u Q I rx ry ⟨_, _, _, z, rfl, rfl, ht, e1, q.here st r1⟩ hs
  · split at e
    · rename_i xs hl
      obtain ⟨p, vs, e2, hq, r⟩ := VR.listOf st ra hl
      subst e2
      cases rb
      obtain ⟨z, e1, r1⟩ := r.ix e
      exact ix_list value slice pins s σ H _ _ v u Q I rx ry ⟨p, vs, _, z, rfl, rfl, hq, e1, q.here st r1⟩ hs
    · cases e
  · cases e
/-! ### slices -/
def rS (K : PySem.W.Frag) : V → Option Int → Option Int → Hp → VK → Prop := fun x lo hi H Q => ∃ S m u w, StoreR K S m H ∧ VR K m S.length H u x ∧ evSl S u lo hi = some w ∧ PEnd K S m H w Q
theorem cut_all {α : Type} {xs : List α} {lo hi : Option Int} (h1 : clip xs.length 0 lo = 0) (h2 : clip xs.length xs.length hi = xs.length) : cut xs lo hi = xs := by
  unfold cut
  rw [h1, h2]
  simp
theorem sl_ev : SlR X (rS X.K) := by
  intro pins s σ H x v vl vu lo hi sl Q I rx hs pl pu h
  obtain ⟨S, m, a, w, st, ra, e, q⟩ := h
  unfold evSl at e
  split at e
  · cases e
    cases ra with
    | str _ hs1 =>
      refine sl_str pins s σ H _ v vl vu lo hi sl Q I rx hs pl pu ⟨strV _, rfl, by rw [strV_length, ← SZ_eq]; exact hs1.1, ?_⟩
      rw [cutS_eq]
      exact q.here st (.str _ (hs1.cut lo hi))
  · cases e
    cases ra with
    | @tup p vs _ ht r =>
      have hl := r.length
      refine sl_tupA pins s σ H _ v vl vu lo hi sl Q I rx hs pl pu ⟨p, vs, rfl, ht, fun hw => ?_, fun hw p' hp => ?_⟩
      · rw [clip_sIx, clip_sIx, ← hl] at hw
        exact q.here st (by rw [cut_all hw.1 hw.2]; exact .tup ht r)
      · rw [cutV_eq]
        exact q.tup st hp (r.cut lo hi)
  · obtain ⟨xs, hl, rfl⟩ := Option.map_eq_some_iff.mp e
    obtain ⟨p, vs, e2, hq, r⟩ := VR.listOf st ra hl
    subst e2
    refine sl_list pins s σ H _ v vl vu lo hi sl Q I rx hs pl pu ⟨p, vs, rfl, hq, fun p' hp => ?_⟩
    rw [cutV_eq]
    exact q.lst st hp (r.cut lo hi)
/-! ### built-ins -/
def biId : BI → Value
  | .len => .builtin "len" | .int => .type "int" | .str => .type "str" | .abs => .builtin "abs" | .min2 => .builtin "min" | .max2 => .builtin "max"
  | .all => .builtin "all" | .any => .builtin "any" | .tuple => .type "tuple" | .list => .type "list" | .sorted => .builtin "sorted" | .sum => .builtin "sum"
def biName : BI → String
  | .len => "len" | .int => "int" | .str => "str" | .abs => "abs" | .min2 => "min" | .max2 => "max" | .all => "all" | .any => "any" | .tuple => "tuple" | .list => "list" | .sorted => "sorted" | .sum => "sum"
def rBI (K : PySem.W.Frag) (b : BI) : List V → Hp → VK → Prop := fun vs H Q => ∃ S m us w, StoreR K S m H ∧ VRs K m S.length H us vs ∧ evBI S b us = some w ∧ PEnd K S m H w Q
theorem log2_lt {n k : Nat} (h : n < 2 ^ k) (hk : 0 < k) : n.log2 < k := by
  by_cases h0 : n = 0
  · subst h0; simpa using hk
  · exact (Nat.log2_lt h0).mpr h
theorem ints_vrs {K : PySem.W.Frag} {m : Mp} {n : Nat} {H : Hp} : ∀ ns : List Int, VRs K m n H (ns.map PV.int) (ns.map V.int)
  | [] => .nil
  | z :: r => .cons (.int z) (ints_vrs r)
theorem call_ev (hc : X.calm = true) (b : BI) : CallR X (biId b) (rBI X.K b) := by
  intro pins s σ H xs us Q I r h
  obtain ⟨S, m, as, w, st, ra, e, q⟩ := h
  unfold evBI at e
  split at e
  · cases e
    cases ra with
    | cons r1 rn =>
      cases rn
      cases r1 with
      | str _ hs => exact call_len_str pins s σ H _ us Q I r ⟨strV _, rfl, by rw [strV_length, ← SZ_eq]; exact hs.1, by rw [strV_length]; exact q.here st (.int _)⟩
  · split at e
    · rename_i ks us' hd
      cases e
      cases ra with
      | cons r1 rn =>
        cases rn
        obtain ⟨k, kvs, e1, hk, hS, e2, hH, kr, rs⟩ := VR.dicOf st r1 hd
        subst e2
        exact call_lenD pins s σ H _ us Q I r ⟨_, kvs, rfl, hH, by rw [← kr.length]; exact q.here st (.int _)⟩
    obtain ⟨ys, hl, rfl⟩ := Option.map_eq_some_iff.mp e
    cases ra with
    | cons r1 rn =>
      cases rn
      obtain ⟨p, vs, e2, hq, rs⟩ := VR.seqOf st r1 hl
      subst e2
      exact call_len_seq pins s σ H _ us Q I r ⟨p, vs, rfl, hq, by rw [← rs.length]; exact q.here st (.int _)⟩
  · split at e
    · rename_i hz
      cases e
      cases ra with
      | cons r1 rn =>
        cases rn
        cases r1 with
        | str _ hs =>
          rename_i z
          refine call_sortedTxt hc pins s σ H _ us Q I r ⟨strV z, rfl, by rw [strV_length]; exact hz, fun ys p h1 h2 hp => ?_⟩
          rw [strV_cps] at h1
          rw [srtC_uniq h1 h2, List.map_map]
          refine q.lst st hp ?_
          have key : ∀ l : List Nat, (∀ c ∈ l, c ∈ z) → VRs X.K m S.length H (l.map fun c => PV.str [c]) (l.map (V.str ∘ fun c => strV [c])) := by
            intro l
            induction l with
            | nil => intro _; exact .nil
            | cons c l ih => intro hl; exact .cons (.str [c] (hs.one (hl c List.mem_cons_self))) (ih fun d hd => hl d (List.mem_cons_of_mem _ hd))
          exact key _ fun c hc => (srtC_perm z).mem_iff.mp hc
    · cases e
  · split at e
    · rename_i ks us' hd
      obtain ⟨ns, hn, e⟩ := Option.bind_eq_some_iff.mp e
      split at e
      · rename_i h64
        cases e
        cases ra with
        | cons r1 rn =>
          cases rn
          obtain ⟨k, kvs, e1, hk, hS, e2, hH, kr, rs⟩ := VR.dicOf st r1 hd
          subst e2
          refine call_sortedDI hc pins s σ H _ us Q I r ⟨_, kvs, ns, rfl, .inl hH, kr.ints hn, h64, fun ys p h1 h2 hp => ?_⟩
          rw [srtI_uniq h1 h2]
          exact q.lst st hp (ints_vrs _)
      · cases e
    · obtain ⟨ys, hl, e⟩ := Option.bind_eq_some_iff.mp e
      obtain ⟨ns, hn, e⟩ := Option.bind_eq_some_iff.mp e
      cases e
      cases ra with
      | cons r1 rn =>
        cases rn
        obtain ⟨p, vs, e2, hq, rs⟩ := VR.listOf st r1 hl
        subst e2
        have := rs.ints hn
        subst this
        refine cr_sortedI pins s σ H _ us Q I r ⟨p, ns, rfl, hq, fun ys p h1 h2 hp => ?_⟩
        rw [srtI_uniq h1 h2]
        exact q.lst st hp (ints_vrs _)
  · obtain ⟨ys, hl, e⟩ := Option.bind_eq_some_iff.mp e
    obtain ⟨ns, hn, rfl⟩ := Option.map_eq_some_iff.mp e
    cases ra with
    | cons r1 rn =>
      cases rn
      obtain ⟨p, vs, e2, hq, rs⟩ := VR.listOf st r1 hl
      subst e2
      have := rs.ints hn
      subst this
      exact cr_sum hc pins s σ H _ us Q I r ⟨p, ns, rfl, hq, q.here st (.int _)⟩
  · cases e
    cases ra with
    | cons r1 rn =>
      cases rn
      cases r1
      exact call_int1 pins s σ H _ us Q I r (.inl ⟨_, rfl, q.here st (.int _)⟩)
  · cases e
    cases ra with
    | cons r1 rn =>
      cases rn
      cases r1
      exact call_int1 pins s σ H _ us Q I r (.inr ⟨_, rfl, q.here st (.int _)⟩)
  · split at e
    · rename_i hz
      obtain ⟨n, hn, rfl⟩ := Option.map_eq_some_iff.mp e
      cases ra with
      | cons r1 rn =>
        cases rn
        cases r1 with
        | str _ hs => exact call_int_str pins s σ H _ us Q I r ⟨strV _, n, rfl, int_text hz.1 hz.2 hn, by rw [strV_length]; exact hz.2, q.here st (.int _)⟩
    · cases e
  · split at e
    · rename_i hz
      cases e
      cases ra with
      | cons r1 rn =>
        cases rn
        cases r1 with
        | int _ =>
          rename_i i
          refine call_str_int pins s σ H _ us Q I r ⟨i, rfl, Nat.lt_trans (log2_lt (k := 1000) hz (by decide)) (by decide), ?_⟩
          have := q.here st (.str (figs i) (figs_ok i hz))
          rw [figs_str] at this
          exact this
    · cases e
  · cases e
    cases ra with
    | cons r1 rn =>
      cases rn
      cases r1
      exact call_abs pins s σ H _ us Q I r ⟨_, rfl, q.here st (.int _)⟩
  · cases e
    cases ra with
    | cons r1 rn =>
      cases rn with
      | cons r2 rn =>
        cases rn
        cases r1
        cases r2
        exact call_min2 hc pins s σ H _ us Q I r ⟨_, _, rfl, q.here st (.int _)⟩
  · cases e
    cases ra with
    | cons r1 rn =>
      cases rn with
      | cons r2 rn =>
        cases rn
        cases r1
        cases r2
        exact call_max2 hc pins s σ H _ us Q I r ⟨_, _, rfl, q.here st (.int _)⟩
  · split at e
    · rename_i ys hl
      obtain ⟨bs, hb, rfl⟩ := Option.map_eq_some_iff.mp e
      cases ra with
      | cons r1 rn =>
        cases rn
        obtain ⟨p, vs, e2, hq, rs⟩ := VR.listOf st r1 hl
        subst e2
        have := rs.bls hb
        subst this
        exact cr_all hc pins s σ H _ us Q I r ⟨p, bs, rfl, hq, q.here st (.bl _)⟩
    · cases e
  · split at e
    · rename_i ys hl
      obtain ⟨bs, hb, rfl⟩ := Option.map_eq_some_iff.mp e
      cases ra with
      | cons r1 rn =>
        cases rn
        obtain ⟨p, vs, e2, hq, rs⟩ := VR.listOf st r1 hl
        subst e2
        have := rs.bls hb
        subst this
        exact cr_any hc pins s σ H _ us Q I r ⟨p, bs, rfl, hq, q.here st (.bl _)⟩
    · cases e
  · obtain ⟨ys, hl, rfl⟩ := Option.map_eq_some_iff.mp e
    cases ra with
    | cons r1 rn =>
      cases rn
      obtain ⟨p, vs, e2, hq, rs⟩ := VR.seqOf st r1 hl
      subst e2
      refine call_tuple_of pins s σ H _ us Q I r ⟨p, vs, rfl, ?_⟩
      rcases hq with hq | hq
      · exact .inl ⟨hq, fun l hp => q.tup st hp rs⟩
      · exact .inr ⟨hq, q.here st (.tup hq rs)⟩
  · obtain ⟨ys, hl, rfl⟩ := Option.map_eq_some_iff.mp e
    cases ra with
    | cons r1 rn =>
      cases rn
      obtain ⟨p, vs, e2, hq, rs⟩ := VR.seqOf st r1 hl
      subst e2
      exact call_list_of pins s σ H _ us Q I r ⟨p, vs, rfl, hq, fun l hp => q.lst st hp rs⟩
  · cases e
/-! ### methods of texts -/
def bmId : BM → String
  | .index => "str.index" | .find => "str.find" | .find3 => "str.find" | .rjust => "str.rjust" | .split2 => "str.split" | .join => "str.join"
def bmName : BM → String
  | .index => "index" | .find => "find" | .find3 => "find" | .rjust => "rjust" | .split2 => "split" | .join => "join"
def rBM (K : PySem.W.Frag) (b : BM) : V → List V → Hp → VK → Prop := fun x vs H Q => ∃ S m u us w, StoreR K S m H ∧ VR K m S.length H u x ∧ VRs K m S.length H us vs ∧ evBM S b u us = some w ∧ PEnd K S m H w Q
theorem rNew_of {K : PySem.W.Frag} {S : Store} {m : Mp} {H : Hp} {Q : VK} {ss : List (List Nat)} (st : StoreR K S m H) (hs : ∀ s ∈ ss, okS s) (q : PEnd K S m H (.lst (ss.map PV.str)) Q) : rNewStrs (ss.map strV) H Q := by
  intro p hp
  refine q.lst st hp ?_
  clear q
  induction ss with
  | nil => exact .nil
  | cons s ss ih => exact .cons (.str s (hs s List.mem_cons_self)) (ih fun z hz => hs z (List.mem_cons_of_mem _ hz))
theorem mt_ev (b : BM) : MtR X (bmId b) (rBM X.K b) := by
  intro pins s σ H x xs v us Q I rx r h
  obtain ⟨S, m, a, as, w, st, ra, rs, e, q⟩ := h
  unfold evBM at e
  split at e
  · obtain ⟨k, hk, rfl⟩ := Option.map_eq_some_iff.mp e
    cases ra with
    | str _ hs =>
      cases rs with
      | cons r1 rn =>
        cases rn
        cases r1
        obtain ⟨t, rfl⟩ := rx
        cases r with
        | cons q1 qn =>
          cases qn
          obtain ⟨t', rfl⟩ := q1
          exact PySem.SC.index (i := k) (rest := []) (by rw [occ_all, hk]; rfl) ⟨.int k, H, I.tok _, ⟨_, rfl⟩, q.here st (.int _)⟩
  · cases e
    cases ra with
    | str _ hs =>
      cases rs with
      | cons r1 rn =>
        cases rn
        cases r1
        refine mt_find pins s σ H _ _ v us Q I rx r ⟨_, _, rfl, rfl, ?_⟩
        rw [find_text]
        exact q.here st (.int _)
  · split at e
    · rename_i hz
      cases e
      cases ra with
      | str _ hs =>
        cases rs with
        | cons r1 rn =>
          cases rn with
          | cons r2 rn =>
            cases rn
            cases r1
            cases r2
            refine mt_find3 pins s σ H _ _ v us Q I rx r ⟨_, _, _, rfl, rfl, ?_⟩
            rw [find3_text _ _ _ hz]
            exact q.here st (.int _)
    · cases e
  · split at e
    · rename_i hz
      cases e
      cases ra with
      | str _ hs =>
        cases rs with
        | cons r1 rn =>
          cases rn with
          | cons r2 rn =>
            cases rn
            cases r1
            cases r2 with
            | str _ hc =>
              obtain ⟨t, rfl⟩ := rx
              cases r with
              | cons q1 qn =>
                cases qn with
                | cons q2 qn =>
                  cases qn
                  obtain ⟨t1, rfl⟩ := q1
                  obtain ⟨t2, rfl⟩ := q2
                  rename_i z n c
                  have hp : PadOk n = true := by
                    unfold PadOk fitsSsize Builtin.Str.tooLong
                    simp only [Bool.and_eq_true, Bool.not_eq_true', Bool.or_eq_false_iff, decide_eq_false_iff_not]
                    refine ⟨⟨by omega, by omega⟩, ?_⟩
                    rw [sizeLine_eq]
                    omega
                  refine PyProof.Rows.rjust_fill hp (by rw [strV_length]; rfl) fun t' k => ?_
                  have ec : (strV [c]).cps.getD 0 0 = c := rfl
                  rw [ec, rjust_text]
                  refine ⟨.str _, H, I.tok k, ⟨t', rfl⟩, q.here st (.str _ ⟨?_, fun d hd => ?_⟩)⟩
                  · rw [List.length_append, List.length_replicate]
                    have : SZ = 16777216 := rfl
                    omega
                  · rcases List.mem_append.mp hd with hd | hd
                    · rw [(List.mem_replicate.mp hd).2]
                      exact hc.2 c (List.mem_singleton.mpr rfl)
                    · exact hs.2 d hd
    · cases e
  · split at e
    · rename_i hz
      cases e
      cases ra with
      | str _ hs =>
        cases rs with
        | cons r1 rn =>
          cases rn with
          | cons r2 rn =>
            cases rn
            cases r1 with
            | str _ hc =>
              cases r2
              refine mt_splitMax pins s σ H _ _ v us Q I rx r ⟨_, _, 1, rfl, rfl, by rw [strV_length]; rfl, by decide, by decide, by rw [strV_length, ← SZ_eq]; exact hz, ?_⟩
              rw [split_text]
              rename_i z c
              cases hf : findC c z 0 with
              | none =>
                rw [hf] at q
                exact rNew_of (ss := [z]) st (fun y hy => by rw [List.mem_singleton.mp hy]; exact hs) q
              | some k =>
                rw [hf] at q
                refine rNew_of (ss := [z.take k, z.drop (k + 1)]) st (fun y hy => ?_) q
                rcases List.mem_cons.mp hy with rfl | hy
                · exact hs.sub (by rw [List.length_take]; omega) fun c hc => List.mem_of_mem_take hc
                · rw [List.mem_singleton.mp hy]
                  exact hs.sub (by rw [List.length_drop]; omega) fun c hc => List.mem_of_mem_drop hc
    · cases e
  · split at e
    · rename_i ys hl
      split at e
      · rename_i ss hss
        split at e
        · rename_i hz
          cases e
          cases ra with
          | str _ hs =>
            cases rs with
            | cons r1 rn =>
              cases rn
              obtain ⟨p, vs, e2, hq, rs⟩ := VR.listOf st r1 hl
              subst e2
              obtain ⟨e3, e4⟩ := rs.strs hss
              subst e3
              refine mt_join pins s σ H _ _ v us Q I rx r ⟨_, p, ss.map strV, rfl, rfl, .inl hq, ?_, ?_⟩
              · rw [List.map_map, strV_length, List.length_map]
                have : (ss.map ((fun x => x.length) ∘ strV)) = ss.map List.length := List.map_congr_left fun z _ => strV_length z
                rw [this]
                exact hz
              · rw [join_text]
                refine q.here st (.str _ ⟨Nat.le_trans (joinL_len _ ss) hz, fun c hc => ?_⟩)
                rcases joinL_mem _ ss c hc with h | ⟨z, h1, h2⟩
                · exact hs.2 c h
                · exact (e4 z h1).2 c h2
        · cases e
      · cases e
    · cases e
  · cases e
end
end MK

set_option linter.all false
set_option autoImplicit false
set_option Elab.async false
set_option maxRecDepth 100000
set_option maxHeartbeats 4000000
/-! MkPE: each construct's reading, by what its parts come to. -/
namespace MK
open PySem PySem.Spec PyProof.Rows L2

structure EnvR (K : PySem.W.Frag) (ρ : Env) (m : Mp) (n : Nat) (H : Hp) (σ : L2.St) : Prop where
  len : ρ.length = σ.length
  get : ∀ (i : Nat) (v : PV), ρ[i]? = some (some v) → ∃ x, σ[i]? = some (some x) ∧ VR K m n H v x
structure Good (K : PySem.W.Frag) (ρ : Env) (S : Store) (m : Mp) (σ : L2.St) (H : Hp) : Prop where
  env : EnvR K ρ m S.length H σ
  st : StoreR K S m H

section
variable (K : PySem.W.Frag) (xC : Xs)
/-- what is wanted of an outcome, from the state (m, S, H) on -/
def OP {α : Type} (W : WX) (σ : L2.St) (m : Mp) (S : Store) (H : Hp) (R : α → Store → Mp → Hp → Prop) : Out α → Prop
  | .ok a S' => ∀ m' H', Ext m S.length H m' S'.length H' → StoreR K S' m' H' → R a S' m' H'
  | .exc c as S' => ∀ m' H', Ext m S.length H m' S'.length H' → StoreR K S' m' H' → ∀ d, XD xC c as d H' → W (.ref (xC.a c)) d σ H'
  | .bad => False
def tE (W : WX) (f : Env → Store → Out PV) : TE := fun σ H Q => ∃ ρ S m, Good K ρ S m σ H ∧
  OP K xC W σ m S H (fun v S' m' H' => ∀ x, VR K m' S'.length H' v x → Q x H') (f ρ S)
def tT (W : WX) (f : Env → Store → Out PV) : TT := fun σ H Q => ∃ ρ S m, Good K ρ S m σ H ∧
  OP K xC W σ m S H (fun v S' m' H' => ∃ b, v = .bl b ∧ Q b H') (f ρ S)
def tA (W : WX) (f : Env → Store → Out (List PV)) : TA := fun σ H Q => ∃ ρ S m, Good K ρ S m σ H ∧
  OP K xC W σ m S H (fun v S' m' H' => ∀ x, VRs K m' S'.length H' v x → Q x H') (f ρ S)
end

section
variable {K : PySem.W.Frag} {xC : Xs} {W : WX} {σ : L2.St} {m m' : Mp} {S S' : Store} {H H' : Hp} {ρ : Env} {α β : Type}
theorem EnvR.on (st : StoreR K S m H) {n' : Nat} (ex : Ext m S.length H m' n' H') (e : EnvR K ρ m S.length H σ) : EnvR K ρ m' n' H' σ :=
  ⟨e.len, fun i v h => let ⟨x, h1, h2⟩ := e.get i v h; ⟨x, h1, VR.on st ex h2⟩⟩
theorem Good.on (g : Good K ρ S m σ H) (ex : Ext m S.length H m' S'.length H') (st : StoreR K S' m' H') : Good K ρ S' m' σ H' := ⟨g.env.on g.st ex, st⟩
theorem OP.ext {R : α → Store → Mp → Hp → Prop} (ex : Ext m S.length H m' S'.length H') : ∀ {o : Out α}, OP K xC W σ m S H R o → OP K xC W σ m' S' H' R o
  | .ok a S2, h => fun m2 H2 e s => h m2 H2 (ex.trans e) s
  | .exc c as S2, h => fun m2 H2 e s => h m2 H2 (ex.trans e) s
  | .bad, h => h
theorem OP.imp {R R' : α → Store → Mp → Hp → Prop} (i : ∀ a S' m' H', Ext m S.length H m' S'.length H' → StoreR K S' m' H' → R a S' m' H' → R' a S' m' H') : ∀ {o : Out α}, OP K xC W σ m S H R o → OP K xC W σ m S H R' o
  | .ok a S2, h => fun m2 H2 e s => i _ _ _ _ e s (h m2 H2 e s)
  | .exc c as S2, h => h
  | .bad, h => h
theorem OP.bind {R : β → Store → Mp → Hp → Prop} {f : α → Store → Out β} : ∀ {o : Out α}, OP K xC W σ m S H R (o.bind f) → OP K xC W σ m S H (fun a S1 m1 H1 => OP K xC W σ m1 S1 H1 R (f a S1)) o
  | .ok a S2, h => fun m2 H2 e s => OP.ext e h
  | .exc c as S2, h => h
  | .bad, h => h
theorem OP.lift {R : α → Store → Mp → Hp → Prop} : ∀ {o : Option α}, OP K xC W σ m S H R (lift S o) → ∃ a, o = some a ∧ ∀ m' H', Ext m S.length H m' S.length H' → StoreR K S m' H' → R a S m' H'
  | some a, h => ⟨a, rfl, h⟩
  | none, h => h.elim
/-- a plain value behind an operator -/
theorem PEnd.of {w : PV} {Q : VK} (h : ∀ m' H', Ext m S.length H m' S.length H' → StoreR K S m' H' → ∀ x, VR K m' S.length H' w x → Q x H') : PEnd K S m H w Q := fun H' e s z r => h m H' e s z r
end

section
variable {X : Cx} {xC : Xs} {W : WX}
theorem _root_.L2.PE.imp {e : Expr} {t t' : TE} (h : PE X e t) (i : ∀ σ H Q, t' σ H Q → t σ H Q) : PE X e t' := ⟨fun pins s σ H Q I q => h.run pins s σ H Q I (i σ H Q q)⟩
theorem _root_.L2.PT.imp {e : Expr} {t t' : TT} (h : PT X e t) (i : ∀ σ H Q, t' σ H Q → t σ H Q) : PT X e t' := ⟨fun pins s σ H Q I q => h.run pins s σ H Q I (i σ H Q q)⟩
theorem _root_.L2.PW.imp {e : Expr} {t t' : TT} (h : PW X e t) (i : ∀ σ H Q, t' σ H Q → t σ H Q) : PW X e t' := ⟨fun wh pins s σ H Q I q => h.run wh pins s σ H Q I (i σ H Q q)⟩
theorem _root_.L2.PA.imp {e : List Expr} {t t' : TA} (h : PA X e t) (i : ∀ σ H Q, t' σ H Q → t σ H Q) : PA X e t' := ⟨fun p pins s σ H Q I q => h.run p pins s σ H Q I (i σ H Q q)⟩
theorem _root_.L2.PS.imp {e : Stmt} {t t' : TS} (h : PS X e t) (i : ∀ D σ H, t' D σ H → t D σ H) : PS X e t' := ⟨fun pins s σ H D I q => h.run pins s σ H D I (i D σ H q)⟩
theorem _root_.L2.PSs.imp {e : List Stmt} {t t' : TS} (h : PSs X e t) (i : ∀ D σ H, t' D σ H → t D σ H) : PSs X e t' := ⟨fun pins s σ H D I q => h.run pins s σ H D I (i D σ H q)⟩
variable {a b c : Expr} {f g h : Env → Store → Out PV} {pos : Pos}

theorem e_var {i : Nat} {x : Str} (hN : X.N[i]? = some x) (hv : Vis X.env.scope x) (hd : (x == ("__debug__" : Str)) = false) (hcd : (x == ("__classdict__" : Str)) = false) :
    PE X (.Name x pos) (tE X.K xC W fun ρ S => match ρ[i]? with | some (some v) => .ok v S | _ => .bad) := by
  refine (pe_var hN hv hd hcd).imp fun σ H Q ⟨ρ, S, m, G, q⟩ => ?_
  dsimp only at q
  split at q
  · rename_i v hv'
    obtain ⟨x, h1, h2⟩ := G.env.get i v hv'
    exact ⟨x, h1, q m H (Ext.refl G.st) G.st x h2⟩
  · exact q.elim
theorem e_const {v : PV} {x : V} {e : Expr} (h : PE X e (tC x)) (r : ∀ m n H, VR X.K m n H v x) : PE X e (tE X.K xC W fun _ S => .ok v S) := by
  refine h.imp fun σ H Q ⟨ρ, S, m, G, q⟩ => ?_
  exact q m H (Ext.refl G.st) G.st x (r _ _ _)
theorem e_bin (op : BO) (ha : PE X a (tE X.K xC W f)) (hb : PE X b (tE X.K xC W g)) :
    PE X (.BinOp a (opOf op) b pos) (tE X.K xC W fun ρ S => (f ρ S).bind fun x S1 => (g ρ S1).bind fun y S2 => lift S2 (evBin S2 op x y)) := by
  refine (pe_op (op_bin op) ha hb).imp fun σ H Q ⟨ρ, S, m, G, q⟩ => ?_
  refine ⟨ρ, S, m, G, q.bind.imp fun x S1 m1 H1 e1 s1 q1 v1 r1 => ?_⟩
  refine ⟨ρ, S1, m1, G.on e1 s1, q1.bind.imp fun y S2 m2 H2 e2 s2 q2 v2 r2 => ?_⟩
  obtain ⟨w, hw, q3⟩ := q2.lift
  exact ⟨S2, m2, x, y, w, s2, VR.on s1 e2 r1, r2, hw, PEnd.of q3⟩
theorem e_neg (ha : PE X a (tE X.K xC W f)) : PE X (.UnaryOp .USub a pos) (tE X.K xC W fun ρ S => (f ρ S).bind fun x S1 => match x with | .int i => .ok (.int (-i)) S1 | _ => .bad) := by
  refine (pe_un un_neg ha).imp fun σ H Q ⟨ρ, S, m, G, q⟩ => ?_
  refine ⟨ρ, S, m, G, q.bind.imp fun x S1 m1 H1 e1 s1 q1 v1 r1 => ?_⟩
  cases x with
  | int i =>
    cases r1
    exact ⟨i, rfl, q1 m1 H1 (Ext.refl s1) s1 _ (.int _)⟩
  | _ => exact q1.elim
theorem e_cmp (op : CO) (hu : X.A.units + 65 < cLine) (ha : PE X a (tE X.K xC W f)) (hb : PE X b (tE X.K xC W g)) (hm : behindInMarks (cmpOf op) b = false) :
    PE X (.Compare a [cmpOf op] [b] pos) (tE X.K xC W fun ρ S => (f ρ S).bind fun x S1 => (g ρ S1).bind fun y S2 => lift S2 ((evCmp S2 op x y).map PV.bl)) := by
  refine (pe_cmpR (op_cmp op hu) ha hb hm).imp fun σ H Q ⟨ρ, S, m, G, q⟩ => ?_
  refine ⟨ρ, S, m, G, q.bind.imp fun x S1 m1 H1 e1 s1 q1 v1 r1 => ?_⟩
  refine ⟨ρ, S1, m1, G.on e1 s1, q1.bind.imp fun y S2 m2 H2 e2 s2 q2 v2 r2 => ?_⟩
  obtain ⟨w, hw, q3⟩ := q2.lift
  obtain ⟨k, hk, rfl⟩ := Option.map_eq_some_iff.mp hw
  exact ⟨S2, m2, x, y, k, s2, VR.on s1 e2 r1, r2, hk, q3 m2 H2 (Ext.refl s2) s2 _ (.bl k)⟩
theorem t_cmp (op : CO) (hu : X.A.units + 65 < cLine) (ha : PE X a (tE X.K xC W f)) (hb : PE X b (tE X.K xC W g)) (hm : behindInMarks (cmpOf op) b = false) :
    PT X (.Compare a [cmpOf op] [b] pos) (tT X.K xC W fun ρ S => (f ρ S).bind fun x S1 => (g ρ S1).bind fun y S2 => lift S2 ((evCmp S2 op x y).map PV.bl)) := by
  refine (pt_cmpR (op_cmp op hu) ha hb hm).imp fun σ H Q ⟨ρ, S, m, G, q⟩ => ?_
  refine ⟨ρ, S, m, G, q.bind.imp fun x S1 m1 H1 e1 s1 q1 v1 r1 => ?_⟩
  refine ⟨ρ, S1, m1, G.on e1 s1, q1.bind.imp fun y S2 m2 H2 e2 s2 q2 v2 r2 => ?_⟩
  obtain ⟨w, hw, q3⟩ := q2.lift
  obtain ⟨k, hk, rfl⟩ := Option.map_eq_some_iff.mp hw
  obtain ⟨b, eb, q4⟩ := q3 m2 H2 (Ext.refl s2) s2
  cases eb
  exact ⟨S2, m2, x, y, k, s2, VR.on s1 e2 r1, r2, hk, k, rfl, q4⟩
/-- a op b op c -/
def chainF (p q : CO) (f g h : Env → Store → Out PV) : Env → Store → Out PV := fun ρ S => (f ρ S).bind fun x S1 => (g ρ S1).bind fun y S2 => match evCmp S2 p x y with
  | some true => (h ρ S2).bind fun z S3 => lift S3 ((evCmp S3 q y z).map PV.bl)
  | some false => .ok (.bl false) S2
  | none => .bad
theorem e_chain (p p' : CO) (hu : X.A.units + 65 < cLine) (ha : PE X a (tE X.K xC W f)) (hb : PE X b (tE X.K xC W g)) (hc : PE X c (tE X.K xC W h)) (hm : lastMarks [cmpOf p, cmpOf p'] [b, c] = false) :
    PE X (.Compare a [cmpOf p, cmpOf p'] [b, c] pos) (tE X.K xC W (chainF p p' f g h)) := by
  refine (pe_chain (op_cmp p hu) (op_cmp p' hu) ha hb hc hm).imp fun σ H Q ⟨ρ, S, m, G, q⟩ => ?_
  refine ⟨ρ, S, m, G, OP.imp (fun x S1 m1 H1 e1 s1 q1 v1 r1 => ?_) (OP.bind q)⟩
  refine ⟨ρ, S1, m1, G.on e1 s1, q1.bind.imp fun y S2 m2 H2 e2 s2 q2 v2 r2 => ?_⟩
  split at q2
  · rename_i hk
    refine ⟨S2, m2, x, y, true, s2, VR.on s1 e2 r1, r2, hk, true, rfl, iteT ?_⟩
    refine ⟨ρ, S2, m2, (G.on e1 s1).on e2 s2, q2.bind.imp fun z S3 m3 H3 e3 s3 q3 v3 r3 => ?_⟩
    obtain ⟨w, hw, q4⟩ := q3.lift
    obtain ⟨k, hk, rfl⟩ := Option.map_eq_some_iff.mp hw
    exact ⟨S3, m3, y, z, k, s3, VR.on s2 e3 r2, r3, hk, q4 m3 H3 (Ext.refl s3) s3 _ (.bl k)⟩
  · rename_i hk
    exact ⟨S2, m2, x, y, false, s2, VR.on s1 e2 r1, r2, hk, false, rfl, iteF (q2 m2 H2 (Ext.refl s2) s2 _ (.bl false))⟩
  · exact q2.elim
theorem t_chain (p p' : CO) (hu : X.A.units + 65 < cLine) (ha : PE X a (tE X.K xC W f)) (hb : PE X b (tE X.K xC W g)) (hc : PE X c (tE X.K xC W h)) (hm : lastMarks [cmpOf p, cmpOf p'] [b, c] = false) :
    PT X (.Compare a [cmpOf p, cmpOf p'] [b, c] pos) (tT X.K xC W (chainF p p' f g h)) := by
  refine (pt_chain (op_cmp p hu) (op_cmp p' hu) ha hb hc hm).imp fun σ H Q ⟨ρ, S, m, G, q⟩ => ?_
  refine ⟨ρ, S, m, G, OP.imp (fun x S1 m1 H1 e1 s1 q1 v1 r1 => ?_) (OP.bind q)⟩
  refine ⟨ρ, S1, m1, G.on e1 s1, q1.bind.imp fun y S2 m2 H2 e2 s2 q2 v2 r2 => ?_⟩
  split at q2
  · rename_i hk
    refine ⟨S2, m2, x, y, true, s2, VR.on s1 e2 r1, r2, hk, true, rfl, iteT ?_⟩
    refine ⟨ρ, S2, m2, (G.on e1 s1).on e2 s2, q2.bind.imp fun z S3 m3 H3 e3 s3 q3 v3 r3 => ?_⟩
    obtain ⟨w, hw, q4⟩ := q3.lift
    obtain ⟨k, hk, rfl⟩ := Option.map_eq_some_iff.mp hw
    obtain ⟨b, eb, q5⟩ := q4 m3 H3 (Ext.refl s3) s3
    cases eb
    exact ⟨S3, m3, y, z, k, s3, VR.on s2 e3 r2, r3, hk, k, rfl, q5⟩
  · rename_i hk
    obtain ⟨b, eb, q5⟩ := q2 m2 H2 (Ext.refl s2) s2
    cases eb
    exact ⟨S2, m2, x, y, false, s2, VR.on s1 e2 r1, r2, hk, false, rfl, iteF ⟨false, rfl, q5⟩⟩
  · exact q2.elim
theorem e_not (ha : PE X a (tE X.K xC W f)) : PE X (.UnaryOp .Not a pos) (tE X.K xC W fun ρ S => (f ρ S).bind fun x S1 => match x with | .bl b => .ok (.bl (!b)) S1 | _ => .bad) := by
  refine (pe_not ha).imp fun σ H Q ⟨ρ, S, m, G, q⟩ => ?_
  refine ⟨ρ, S, m, G, q.bind.imp fun x S1 m1 H1 e1 s1 q1 v1 r1 => ?_⟩
  cases x with
  | bl i =>
    cases r1
    exact ⟨i, rfl, q1 m1 H1 (Ext.refl s1) s1 _ (.bl _)⟩
  | _ => exact q1.elim
theorem t_not (ha : PT X a (tT X.K xC W f)) : PT X (.UnaryOp .Not a pos) (tT X.K xC W fun ρ S => (f ρ S).bind fun x S1 => match x with | .bl b => .ok (.bl (!b)) S1 | _ => .bad) := by
  refine (pt_not ha).imp fun σ H Q ⟨ρ, S, m, G, q⟩ => ?_
  refine ⟨ρ, S, m, G, q.bind.imp fun x S1 m1 H1 e1 s1 q1 => ?_⟩
  cases x with
  | bl i =>
    obtain ⟨b, eb, q2⟩ := q1 m1 H1 (Ext.refl s1) s1
    cases eb
    exact ⟨i, rfl, q2⟩
  | _ => exact q1.elim
/-- a test by its value -/
theorem t_val (ha : PE X a (tE X.K xC W f)) (he : ∀ whole, isTrue a X.env whole = (do let v ← whole; standAt a.pos; holding [v] (truthy v))) : PT X a (tT X.K xC W f) := by
  refine (pt_val ha he).imp fun σ H Q ⟨ρ, S, m, G, q⟩ => ?_
  refine ⟨ρ, S, m, G, q.imp fun x S1 m1 H1 e1 s1 q1 v1 r1 => ?_⟩
  obtain ⟨b, rfl, q2⟩ := q1
  cases r1
  exact ⟨b, rfl, q2⟩
/-- a if t else b, and the like -/
def iteF3 (t f g : Env → Store → Out PV) : Env → Store → Out PV := fun ρ S => (t ρ S).bind fun x S1 => match x with
  | .bl true => f ρ S1
  | .bl false => g ρ S1
  | _ => .bad
theorem e_ite {t : Expr} {k : Env → Store → Out PV} (ht : PT X t (tT X.K xC W k)) (ha : PE X a (tE X.K xC W f)) (hb : PE X b (tE X.K xC W g)) : PE X (.IfExp t a b pos) (tE X.K xC W (iteF3 k f g)) := by
  refine (pe_ifExp ht ha hb).imp fun σ H Q ⟨ρ, S, m, G, q⟩ => ?_
  refine ⟨ρ, S, m, G, OP.imp (fun x S1 m1 H1 e1 s1 q1 => ?_) (OP.bind q)⟩
  cases x with
  | bl i =>
    refine ⟨i, rfl, ?_⟩
    cases i with
    | true => exact iteT ⟨ρ, S1, m1, G.on e1 s1, q1⟩
    | false => exact iteF ⟨ρ, S1, m1, G.on e1 s1, q1⟩
  | _ => exact q1.elim
theorem t_ite {t : Expr} {k : Env → Store → Out PV} (ht : PT X t (tT X.K xC W k)) (ha : PT X a (tT X.K xC W f)) (hb : PT X b (tT X.K xC W g)) : PT X (.IfExp t a b pos) (tT X.K xC W (iteF3 k f g)) := by
  refine ⟨fun pins s σ H Q I ⟨ρ, S, m, G, q⟩ => ?_⟩
  show wpAny _ _ (do if ← isTrue t X.env (eval t X.env) then isTrue a X.env (eval a X.env) else isTrue b X.env (eval b X.env)) _ _ s
  refine wpAny_bind (thn (ht.run pins s σ H (fun i H1 => ∃ S1 m1, Good X.K ρ S1 m1 σ H1 ∧ OP X.K xC W σ m1 S1 H1 (fun v S' m' H' => ∃ b, v = .bl b ∧ Q b H') (if i = true then f ρ S1 else g ρ S1)) I ⟨ρ, S, m, G, OP.imp (fun x S1 m1 H1 e1 s1 q1 => ?_) (OP.bind q)⟩) fun i s1 ⟨H1, I1, S1, m1, G1, q1⟩ => ?_)
  · cases x with
    | bl i =>
      refine ⟨i, rfl, S1, m1, G.on e1 s1, ?_⟩
      cases i with
      | true => exact q1
      | false => exact q1
    | _ => exact q1.elim
  · cases i with
    | true => exact ha.run pins s1 σ H1 Q I1 ⟨ρ, S1, m1, G1, q1⟩
    | false => exact hb.run pins s1 σ H1 Q I1 ⟨ρ, S1, m1, G1, q1⟩
def andF (f g : Env → Store → Out PV) : Env → Store → Out PV := fun ρ S => (f ρ S).bind fun v S1 => match v with
  | .bl true => g ρ S1
  | .bl false => .ok (.bl false) S1
  | _ => .bad
def orF (f g : Env → Store → Out PV) : Env → Store → Out PV := fun ρ S => (f ρ S).bind fun v S1 => match v with
  | .bl false => g ρ S1
  | .bl true => .ok (.bl true) S1
  | _ => .bad
variable {rest : List Expr}
theorem e_and (ha : PE X a (tE X.K xC W f)) (hb : PE X (.BoolOp .And (b :: rest) pos) (tE X.K xC W g)) : PE X (.BoolOp .And (a :: b :: rest) pos) (tE X.K xC W (andF f g)) := by
  refine (pe_and ha hb).imp fun σ H Q ⟨ρ, S, m, G, q⟩ => ?_
  refine ⟨ρ, S, m, G, OP.imp (fun x S1 m1 H1 e1 s1 q1 v1 r1 => ?_) (OP.bind q)⟩
  cases x with
  | bl i =>
    cases r1
    refine ⟨i, rfl, ?_⟩
    cases i with
    | true => exact iteT ⟨ρ, S1, m1, G.on e1 s1, q1⟩
    | false => exact iteF (q1 m1 H1 (Ext.refl s1) s1 _ (.bl false))
  | _ => exact q1.elim
theorem e_or (ha : PE X a (tE X.K xC W f)) (hb : PE X (.BoolOp .Or (b :: rest) pos) (tE X.K xC W g)) : PE X (.BoolOp .Or (a :: b :: rest) pos) (tE X.K xC W (orF f g)) := by
  refine (pe_or ha hb).imp fun σ H Q ⟨ρ, S, m, G, q⟩ => ?_
  refine ⟨ρ, S, m, G, OP.imp (fun x S1 m1 H1 e1 s1 q1 v1 r1 => ?_) (OP.bind q)⟩
  cases x with
  | bl i =>
    cases r1
    refine ⟨i, rfl, ?_⟩
    cases i with
    | false => exact iteF ⟨ρ, S1, m1, G.on e1 s1, q1⟩
    | true => exact iteT (q1 m1 H1 (Ext.refl s1) s1 _ (.bl true))
  | _ => exact q1.elim
theorem w_and (ha : PT X a (tT X.K xC W f)) (hb : PW X (.BoolOp .And (b :: rest) pos) (tT X.K xC W g)) : PW X (.BoolOp .And (a :: b :: rest) pos) (tT X.K xC W (andF f g)) := by
  refine (pw_and ha hb).imp fun σ H Q ⟨ρ, S, m, G, q⟩ => ?_
  refine ⟨ρ, S, m, G, OP.imp (fun x S1 m1 H1 e1 s1 q1 => ?_) (OP.bind q)⟩
  cases x with
  | bl i =>
    refine ⟨i, rfl, ?_⟩
    cases i with
    | true => exact iteT ⟨ρ, S1, m1, G.on e1 s1, q1⟩
    | false =>
      obtain ⟨b, eb, q2⟩ := q1 m1 H1 (Ext.refl s1) s1
      cases eb
      exact iteF q2
  | _ => exact q1.elim
theorem w_or (ha : PT X a (tT X.K xC W f)) (hb : PW X (.BoolOp .Or (b :: rest) pos) (tT X.K xC W g)) : PW X (.BoolOp .Or (a :: b :: rest) pos) (tT X.K xC W (orF f g)) := by
  refine (pw_or ha hb).imp fun σ H Q ⟨ρ, S, m, G, q⟩ => ?_
  refine ⟨ρ, S, m, G, OP.imp (fun x S1 m1 H1 e1 s1 q1 => ?_) (OP.bind q)⟩
  cases x with
  | bl i =>
    refine ⟨i, rfl, ?_⟩
    cases i with
    | false => exact iteF ⟨ρ, S1, m1, G.on e1 s1, q1⟩
    | true =>
      obtain ⟨b, eb, q2⟩ := q1 m1 H1 (Ext.refl s1) s1
      cases eb
      exact iteT q2
  | _ => exact q1.elim

/-! ### subscripts, slices -/
theorem e_ix (ha : PE X a (tE X.K xC W f)) (hb : PE X b (tE X.K xC W g)) (hs : PlainIx b) : PE X (.Subscript a b pos) (tE X.K xC W fun ρ S => (f ρ S).bind fun x S1 => (g ρ S1).bind fun y S2 => lift S2 (evIx S2 x y)) := by
  refine (pe_ix ix_ev ha hb hs).imp fun σ H Q ⟨ρ, S, m, G, q⟩ => ?_
  refine ⟨ρ, S, m, G, q.bind.imp fun x S1 m1 H1 e1 s1 q1 v1 r1 => ?_⟩
  refine ⟨ρ, S1, m1, G.on e1 s1, q1.bind.imp fun y S2 m2 H2 e2 s2 q2 v2 r2 => ?_⟩
  obtain ⟨w, hw, q3⟩ := q2.lift
  exact ⟨S2, m2, x, y, w, s2, VR.on s1 e2 r1, r2, hw, PEnd.of q3⟩
def tO (K : PySem.W.Frag) (xC : Xs) (W : WX) (f : Env → Store → Out (Option Int)) : TO := fun σ H Q => ∃ ρ S m, Good K ρ S m σ H ∧
  OP K xC W σ m S H (fun i S' m' H' => Q i H') (f ρ S)
theorem _root_.L2.PO.imp {e : Option Expr} {t t' : TO} (h : PO X e t) (i : ∀ σ H Q, t' σ H Q → t σ H Q) : PO X e t' := ⟨fun pins s σ H Q I q => h.run pins s σ H Q I (i σ H Q q)⟩
theorem o_none : PO X none (tO X.K xC W fun _ S => .ok none S) := by
  refine po_none.imp fun σ H Q ⟨ρ, S, m, G, q⟩ => ?_
  exact q m H (Ext.refl G.st) G.st
theorem o_some (ha : PE X a (tE X.K xC W f)) : PO X (some a) (tO X.K xC W fun ρ S => (f ρ S).bind partI) := by
  refine (po_some ha).imp fun σ H Q ⟨ρ, S, m, G, q⟩ => ?_
  refine ⟨ρ, S, m, G, OP.imp (fun x S1 m1 H1 e1 s1 q1 v1 r1 => ?_) (OP.bind q)⟩
  cases x with
  | int j =>
    cases r1
    exact ⟨j, rfl, q1 m1 H1 (Ext.refl s1) s1⟩
  | _ => exact q1.elim
def slF (f : Env → Store → Out PV) (g h : Env → Store → Out (Option Int)) : Env → Store → Out PV := fun ρ S => (f ρ S).bind fun x S1 => (g ρ S1).bind fun lo' S2 => (h ρ S2).bind fun hi' S3 => lift S3 (evSl S3 x lo' hi')
theorem e_sl {lo hi : Option Expr} {p2 : Pos} {g h : Env → Store → Out (Option Int)} (ha : PE X a (tE X.K xC W f)) (hl : PO X lo (tO X.K xC W g)) (hh : PO X hi (tO X.K xC W h)) : PE X (.Subscript a (.Slice lo hi none p2) pos) (tE X.K xC W (slF f g h)) := by
  refine (pe_slice sl_ev ha hl hh).imp fun σ H Q ⟨ρ, S, m, G, q⟩ => ?_
  refine ⟨ρ, S, m, G, OP.imp (fun x S1 m1 H1 e1 s1 q1 v1 r1 => ?_) (OP.bind q)⟩
  refine ⟨ρ, S1, m1, G.on e1 s1, q1.bind.imp fun y S2 m2 H2 e2 s2 q2 => ?_⟩
  refine ⟨ρ, S2, m2, (G.on e1 s1).on e2 s2, q2.bind.imp fun z S3 m3 H3 e3 s3 q3 => ?_⟩
  obtain ⟨w, hw, q4⟩ := q3.lift
  exact ⟨S3, m3, x, w, s3, VR.on s1 (e2.trans e3) r1, hw, PEnd.of q4⟩

/-! ### lists of expressions, displays -/
theorem a_nil : PA X [] (tA X.K xC W fun _ S => .ok [] S) := by
  refine pa_nil.imp fun σ H Q ⟨ρ, S, m, G, q⟩ => ?_
  exact q m H (Ext.refl G.st) G.st _ .nil
def consF (f : Env → Store → Out PV) (g : Env → Store → Out (List PV)) : Env → Store → Out (List PV) := fun ρ S => (f ρ S).bind fun v S1 => (g ρ S1).bind fun vs S2 => .ok (v :: vs) S2
theorem a_cons {es : List Expr} {g : Env → Store → Out (List PV)} (ha : PE X a (tE X.K xC W f)) (hr : PA X es (tA X.K xC W g)) (hs : starEach (a :: es) X.env = (false, eval a X.env) :: starEach es X.env) : PA X (a :: es) (tA X.K xC W (consF f g)) := by
  refine (pa_cons ha hr hs).imp fun σ H Q ⟨ρ, S, m, G, q⟩ => ?_
  refine ⟨ρ, S, m, G, OP.imp (fun x S1 m1 H1 e1 s1 q1 v1 r1 => ?_) (OP.bind q)⟩
  refine ⟨ρ, S1, m1, G.on e1 s1, q1.bind.imp fun y S2 m2 H2 e2 s2 q2 v2 r2 => ?_⟩
  exact q2 m2 H2 (Ext.refl s2) s2 _ (.cons (VR.on s1 e2 r1) r2)
variable {es : List Expr} {l : Env → Store → Out (List PV)}
theorem e_tup {k : Nat} (h : PA X es (tA X.K xC W l)) : PE X (.Tuple es k pos) (tE X.K xC W fun ρ S => (l ρ S).bind fun vs S' => if vs.length ≤ SZ then .ok (.tup vs) S' else .bad) := by
  refine (pe_tup h).imp fun σ H Q ⟨ρ, S, m, G, q⟩ => ?_
  refine ⟨ρ, S, m, G, q.bind.imp fun vs S1 m1 H1 e1 s1 q1 xs r => ?_⟩
  split at q1
  · rename_i hz
    refine ⟨by rw [← r.length, ← SZ_eq]; exact hz, fun p hp => ?_⟩
    exact q1 m1 _ (Ext.push s1 hp) (s1.push hp) _ (VR.tupNew s1 hp r)
  · exact q1.elim
def lstF (own : Bool) (l : Env → Store → Out (List PV)) : Env → Store → Out PV := fun ρ S => (l ρ S).bind fun vs S' => if vs.length ≤ SZ then (if own then .ok (.ref S'.length) (S' ++ [.lst vs]) else .ok (.lst vs) S') else .bad
theorem placed {K : PySem.W.Frag} {S : Store} {m : Mp} {H : Hp} {W : WX} {σ : L2.St} {vs : List PV} {xs : List V} {p : Addr} {Q : VK} (st : StoreR K S m H) (hp : H p = none) (r : VRs K m S.length H vs xs)
    (q : OP K xC W σ m S H (fun v S' m' H' => ∀ x, VR K m' S'.length H' v x → Q x H') (.ok (.ref S.length) (S ++ [.lst vs]))) : Q (.ref p) (upd H p (.lst xs)) := by
  have hl : (S ++ [Cell.lst vs]).length = S.length + 1 := by simp
  have := q (ext1 m S.length p) (upd H p (.lst xs)) (by rw [hl]; exact Ext.place st hp) (st.place hp r) (.ref ((ext1 m S.length p).at_ S.length)) (.ref (by rw [hl]; omega))
  rw [ext1_same] at this
  exact this
theorem e_lst {own : Bool} (h : PA X es (tA X.K xC W l)) : PE X (.List es pos) (tE X.K xC W (lstF own l)) := by
  refine (pe_lst h).imp fun σ H Q ⟨ρ, S, m, G, q⟩ => ?_
  refine ⟨ρ, S, m, G, OP.imp (fun vs S1 m1 H1 e1 s1 q1 xs r => ?_) (OP.bind q)⟩
  split at q1
  · rename_i hz
    refine ⟨by rw [← r.length, ← SZ_eq]; exact hz, fun p hp => ?_⟩
    cases own with
    | true => exact placed s1 hp r q1
    | false => exact q1 m1 _ (Ext.push s1 hp) (s1.push hp) _ (VR.lstNew s1 hp r)
  · exact q1.elim

/-! ### calls -/
/-- a def's promise, by what it comes to -/
def spF (K : PySem.W.Frag) (xC : Xs) (np : Nat) (g : List PV → Store → Out PV) : Sp := fun vs H Q E => ∃ us S m, StoreR K S m H ∧ VRs K m S.length H us vs ∧ us.length = np ∧
  OP K xC (fun c d _ H' => E c d H') [] m S H (fun v S' m' H' => ∀ x, VR K m' S'.length H' v x → Q x H') (g us S)
theorem OP.wish {K : PySem.W.Frag} {α : Type} {W W' : WX} {σ σ' : L2.St} {m : Mp} {S : Store} {H : Hp} {R : α → Store → Mp → Hp → Prop} (i : ∀ c d H', W c d σ H' → W' c d σ' H') : ∀ {o : Out α}, OP K xC W σ m S H R o → OP K xC W' σ' m S H R o
  | .ok a S2, h => h
  | .exc c as S2, h => fun m2 H2 e s d hd => i _ _ _ (h m2 H2 e s d hd)
  | .bad, h => h
theorem e_call {k np : Nat} {fa : Addr} {fd : FuncData} {ps : List Str} {x : Str} {p : Pos} {e : Expr} {g : List PV → Store → Out PV}
    (F : FnOk X.prog X.w X.K X.mg X.base (L2.CX X.prog X.w) k fa fd ps (spF X.K xC np g)) (tk : Takes X W) (hr : Room k X.A) (hg : Gl X x) (hm : X.mg x = some (.ref fa)) (hk : PySem.W.keepIn X.K (.ref fa) = true) (hb : Binds X.K fd ps [])
    (hl : ∀ ρ S vs S', l ρ S = .ok vs S' → vs.length = np)
    (ha : PA X (e :: es) (tA X.K xC W l)) (hdb : (x == ("__debug__" : Str)) = false) (he : starEach (e :: es) X.env = (false, eval e X.env) :: starEach es X.env) (hpl : (backTo pos (starEach es X.env)).any (·.1) = false) :
    PE X (.Call (.Name x p) (e :: es) [] pos) (tE X.K xC W fun ρ S => (l ρ S).bind fun vs S' => g vs S') := by
  refine (pe_callS F hr hg hm hk hb (fun σ => passAt tk σ) ha hdb he hpl).imp fun σ H Q ⟨ρ, S, m, G, q⟩ => ?_
  have hl' := hl ρ S
  refine ⟨ρ, S, m, G, ?_⟩
  dsimp only at q
  generalize l ρ S = o at hl' q
  cases o with
  | ok vs S1 =>
    have hn := hl' vs S1 rfl
    intro m1 H1 e1 s1 xs r
    exact ⟨vs, S1, m1, s1, r, hn, OP.wish (W := W) (σ := σ) (fun _ _ _ w => w) (OP.ext e1 q)⟩
  | exc c as S1 => exact q
  | bad => exact q

/-! ### built-ins -/
theorem bi_boot (b : BI) : bootBuiltins (biName b : Str) = some (biId b) := by cases b <;> decide +kernel
theorem e_bi (bf : BI) {e : Expr} {p : Pos} {x : Str} (hx : x = (biName bf : Str)) (hc : X.calm = true) (hg : Gl X x) (hm : X.mg x = none) (ha : PA X (e :: es) (tA X.K xC W l))
    (he : starEach (e :: es) X.env = (false, eval e X.env) :: starEach es X.env) (hpl : (backTo pos (starEach es X.env)).any (·.1) = false) :
    PE X (.Call (.Name x p) (e :: es) [] pos) (tE X.K xC W fun ρ S => (l ρ S).bind fun vs S' => lift S' (evBI S' bf vs)) := by
  have hv : bootBuiltins x = some (biId bf) := by rw [hx]; exact bi_boot bf
  have hn : x ≠ "__name__" := by rw [hx]; cases bf <;> decide +kernel
  have hdb : (x == ("__debug__" : Str)) = false := by rw [hx]; cases bf <;> decide +kernel
  have key : ∀ {r : TE}, (r = tCB (rBI X.K bf) (tA X.K xC W l)) → PE X (.Call (.Name x p) (e :: es) [] pos) r := by
    intro r hr
    subst hr
    have hce := call_ev (X := X) hc bf
    cases bf
    case int => exact pe_callTy hce hg hm hv ha hn hdb he hpl
    case str => exact pe_callTy hce hg hm hv ha hn hdb he hpl
    case tuple => exact pe_callTy hce hg hm hv ha hn hdb he hpl
    case list => exact pe_callTy hce hg hm hv ha hn hdb he hpl
    all_goals exact pe_callB hce hg hm hv ha hn hdb he hpl
  refine (key rfl).imp fun σ H Q ⟨ρ, S, m, G, q⟩ => ?_
  refine ⟨ρ, S, m, G, q.bind.imp fun vs S1 m1 H1 e1 s1 q1 xs r => ?_⟩
  obtain ⟨w, hw, q2⟩ := q1.lift
  exact ⟨S1, m1, vs, w, s1, r, hw, PEnd.of q2⟩
end
end MK

set_option linter.all false
set_option autoImplicit false
set_option Elab.async false
set_option maxRecDepth 100000
set_option maxHeartbeats 4000000
/-! MkPE2: methods, isinstance, append, walks, comprehensions. -/
namespace MK
open PySem PySem.Spec PyProof.Rows L2

section
variable {X : Cx} {xC : Xs} {W : WX} {a b c : Expr} {f g h : Env → Store → Out PV} {pos apos cpos : Pos} {es : List Expr} {l : Env → Store → Out (List PV)}

/-! ### methods of texts -/
theorem tyV_str {K : PySem.W.Frag} {m : Mp} {n : Nat} {H : Hp} {s : List Nat} {x : V} (r : VR K m n H (.str s) x) : tyV K "str" x H := by cases r; rfl
theorem evBM_str {S : Store} {b : BM} {u : PV} {us : List PV} {w : PV} (h : evBM S b u us = some w) : ∃ s, u = .str s := by
  cases u with
  | str s => exact ⟨s, rfl⟩
  | _ => cases b <;> cases h
def bmF (b : BM) (f : Env → Store → Out PV) (l : Env → Store → Out (List PV)) : Env → Store → Out PV := fun ρ S => (f ρ S).bind fun x S1 => if isStrV x then (l ρ S1).bind fun vs S2 => lift S2 (evBM S2 b x vs) else .bad
theorem e_bm (bf : BM) {o e : Expr} {name : Str} (hname : name = (bmName bf : Str)) (ho : PE X o (tE X.K xC W f)) (ha : PA X (e :: es) (tA X.K xC W l))
    (hbase : attributeBase o name X.env (eval o X.env) = eval o X.env)
    (hfew : ((backTo cpos (starEach (e :: es) X.env)).all (fun x => !x.1) && (backToKw cpos (keywordEach [] X.env)).all (fun x => x.1.isSome)
      && decide ((e :: es).length + ([] : List Keyword).length + (if ([] : List Keyword).isEmpty then 0 else 1) < 30)) = true)
    (hline : (apos.endLine == cpos.line) = true) (hs : starEach (e :: es) X.env = (false, eval e X.env) :: starEach es X.env) (hplain : (backTo cpos (starEach es X.env)).any (·.1) = false) :
    PE X (.Call (.Attribute o name apos) (e :: es) [] cpos) (tE X.K xC W (bmF bf f l)) := by
  subst hname
  have key : PE X (.Call (.Attribute o (bmName bf : Str) apos) (e :: es) [] cpos) (tBM X.K "str" (rBM X.K bf) (tE X.K xC W f) (tA X.K xC W l)) := by
    have hm := mt_ev (X := X) bf
    cases bf
    case index => exact pe_bm PySem.F.plainAttrs_str PySem.F.slot_str_index PySem.F.type_str_index hm ho ha hbase hfew hline hs hplain
    case find => exact pe_bm PySem.F.plainAttrs_str PySem.F.slot_str_find PySem.F.type_str_find hm ho ha hbase hfew hline hs hplain
    case find3 => exact pe_bm PySem.F.plainAttrs_str PySem.F.slot_str_find PySem.F.type_str_find hm ho ha hbase hfew hline hs hplain
    case rjust => exact pe_bm PySem.F.plainAttrs_str PySem.F.slot_str_rjust PySem.F.type_str_rjust hm ho ha hbase hfew hline hs hplain
    case split2 => exact pe_bm PySem.F.plainAttrs_str PySem.F.slot_str_split PySem.F.type_str_split hm ho ha hbase hfew hline hs hplain
    case join => exact pe_bm PySem.F.plainAttrs_str PySem.F.slot_str_join PySem.F.type_str_join hm ho ha hbase hfew hline hs hplain
  refine key.imp fun σ H Q ⟨ρ, S, m, G, q⟩ => ?_
  refine ⟨ρ, S, m, G, OP.imp (fun x S1 m1 H1 e1 s1 q1 v1 r1 => ?_) (OP.bind q)⟩
  cases x with
  | str s =>
    refine ⟨tyV_str r1, ρ, S1, m1, G.on e1 s1, OP.imp (fun vs S2 m2 H2 e2 s2 q2 xs r2 => ?_) (OP.bind (show OP X.K xC W σ m1 S1 H1 _ ((l ρ S1).bind _) from q1))⟩
    obtain ⟨w, hw, q3⟩ := q2.lift
    exact ⟨S2, m2, _, vs, w, s2, VR.on s1 e2 r1, r2, hw, PEnd.of q3⟩
  | _ => exact q1.elim

/-! ### append -/
theorem e_app {o e : Expr} (ho : PE X o (tE X.K xC W f)) (he : PE X e (tE X.K xC W g))
    (hbase : attributeBase o "append" X.env (eval o X.env) = eval o X.env)
    (hfew : ((backTo cpos (starEach [e] X.env)).all (fun x => !x.1) && (backToKw cpos (keywordEach [] X.env)).all (fun x => x.1.isSome)
      && decide (([e] : List Expr).length + ([] : List Keyword).length + (if ([] : List Keyword).isEmpty then 0 else 1) < 30)) = true)
    (hline : (apos.endLine == cpos.line) = true) (hs : starEach [e] X.env = (false, eval e X.env) :: starEach [] X.env) :
    PE X (.Call (.Attribute o "append" apos) [e] [] cpos) (tE X.K xC W fun ρ S => (f ρ S).bind fun x S1 => if isListRef S1 x then (g ρ S1).bind fun y S2 => appendTo S2 x y else .bad) := by
  refine (pe_bm PySem.F.plainAttrs_list PySem.F.slot_list_append PySem.F.type_list_append (show MtR X "list.append" rAppend from mt_append) ho (pa_cons he pa_nil hs) hbase hfew hline hs rfl).imp fun σ H Q ⟨ρ, S, m, G, q⟩ => ?_
  refine ⟨ρ, S, m, G, OP.imp (fun x S1 m1 H1 e1 s1 q1 v1 r1 => ?_) (OP.bind q)⟩
  split at q1
  · rename_i hl
    cases x with
    | ref n =>
      cases r1 with
      | ref hn =>
        have hcell := s1.at hn
        have hl : (match S1[n]? with | some (.lst _) => true | _ => false) = true := hl
        have hthere : ∃ vs, H1 (m1.at_ n) = some (.lst vs) := by
          rw [List.getElem?_eq_getElem hn] at hl
          generalize S1[n] = c at hl hcell
          cases c with
          | lst xs => obtain ⟨vs, e, _⟩ := hcell; exact ⟨vs, e⟩
          | dic _ _ => exact nomatch hl
          | ins _ _ => exact nomatch hl
        obtain ⟨vs0, hv0⟩ := hthere
        refine ⟨.inl ⟨rfl, vs0, .inl (.inl hv0)⟩, ρ, S1, m1, G.on e1 s1, OP.imp (fun y S2 m2 H2 e2 s2 q2 v2 r2 => ?_) (OP.bind q1)⟩
        have hn2 : n < S2.length := Nat.lt_of_lt_of_le hn e2.le
        unfold appendTo at q2
        dsimp only at q2
        split at q2
        · rename_i xs hx
          split at q2
          · rename_i hz
            obtain ⟨vs, e3, r3⟩ := s2.cell n _ hx
            have ea : m2.at_ n = m1.at_ n := e2.emb n hn
            refine ⟨m1.at_ n, vs, v2, rfl, rfl, by rw [← ea]; exact e3, by rw [← r3.length, ← SZ_eq]; exact hz, ?_⟩
            have ex : Ext m2 S2.length H2 m2 (S2.set n (Cell.lst (xs ++ [y]))).length (upd H2 (m2.at_ n) (.lst (vs ++ [v2]))) := by
              rw [List.length_set]
              exact Ext.write s2 hn2
            have := q2 m2 _ ex (s2.write hn2 (r3.append (.cons r2 .nil))) .non .non
            rw [ea] at this
            exact this
          · exact q2.elim
        · exact q2.elim
    | _ => cases hl
  · exact q1.elim

/-! ### isinstance -/
def tyName : TyN → String
  | .int => "int" | .bool => "bool" | .str => "str" | .tuple => "tuple" | .list => "list"
def tyOfV : PV → String
  | .non => "NoneType" | .bl _ => "bool" | .int _ => "int" | .str _ => "str" | .tup _ => "tuple" | .lst _ => "list" | .ref _ => "list" | .ty _ => "type"
theorem tyx {K : PySem.W.Frag} {S : Store} {m : Mp} {H : Hp} {t : TyN} {x : PV} {v : V} {w : Bool} (st : StoreR K S m H) (r : VR K m S.length H x v) (h : isTy S t x = some w) : TyX K H v (.type (tyOfV x)) := by
  cases r with
  | non => exact .base .non
  | bl b => exact .base (.bl b)
  | int i => exact .base (.int i)
  | str s hs => exact .base (.str _)
  | tup ht r =>
    rcases ht with (ht | ⟨o, ht⟩) | ⟨o, its, n, h1, h2, _⟩
    · exact .base (.tup ht)
    · exact .fTuple ht
    · exact .kTuple h1 h2
  | lst hl r =>
    rcases hl with ⟨hl | ⟨o, hl⟩, _⟩ | ⟨o, its, n, h1, h2, _⟩
    · exact .base (.lst hl)
    · exact .base (.frz hl)
    · exact .kList h1 h2
  | @ref n hk =>
    have h : (match S[n]? with | some (.lst _) => some (t == .list) | _ => none) = some w := by cases t <;> exact h
    have q := st.at hk
    rw [List.getElem?_eq_getElem hk] at h
    generalize S[n] = c at h q
    cases c with
    | lst xs => obtain ⟨vs, e, _⟩ := q; exact .base (.lst e)
    | dic _ _ => exact nomatch h
    | ins _ _ => exact nomatch h
  | ty t' => cases t <;> cases h
theorem kit_is {S : Store} {t : TyN} {x : PV} {w : Bool} (h : isTy S t x = some w) : kitB (tyOfV x) (tyName t) = some w := by
  have ref : ∀ n, isTy S t (.ref n) = some w → kitB "list" (tyName t) = some w := by
    intro n h
    have h : (match S[n]? with | some (.lst _) => some (t == .list) | _ => none) = some w := by cases t <;> exact h
    split at h
    · cases h
      cases t <;> decide +kernel
    · cases h
  cases x with
  | ref n => exact ref n h
  | non => cases t <;> (cases h; show kitB "NoneType" _ = _; decide +kernel)
  | bl _ => cases t <;> (cases h; show kitB "bool" _ = _; decide +kernel)
  | int _ => cases t <;> (cases h; show kitB "int" _ = _; decide +kernel)
  | str _ => cases t <;> (cases h; show kitB "str" _ = _; decide +kernel)
  | tup _ => cases t <;> (cases h; show kitB "tuple" _ = _; decide +kernel)
  | lst _ => cases t <;> (cases h; show kitB "list" _ = _; decide +kernel)
  | ty _ => cases t <;> cases h
theorem ty_boot (t : TyN) : bootBuiltins (tyName t : Str) = some (.type (tyName t)) := by cases t <;> decide +kernel
theorem e_isi (t : TyN) {p p2 : Pos} {x y : Str} (hx : x = ("isinstance" : Str)) (hy : y = (tyName t : Str)) (hg : Gl X x) (hm : X.mg x = none) (hg2 : Gl X y) (hm2 : X.mg y = none) (ha : PE X a (tE X.K xC W f))
    (he : starEach [a, .Name y p2] X.env = (false, eval a X.env) :: starEach [.Name y p2] X.env) :
    PE X (.Call (.Name x p) [a, .Name y p2] [] pos) (tE X.K xC W fun ρ S => (f ρ S).bind fun x S1 => lift S1 ((isTy S1 t x).map PV.bl)) := by
  have hn : y ≠ "__name__" := by rw [hy]; cases t <;> decide +kernel
  have hd : (y == ("__debug__" : Str)) = false := by rw [hy]; cases t <;> decide +kernel
  have hb : bootBuiltins y = some (.type (tyName t)) := by rw [hy]; exact ty_boot t
  subst hx
  refine (pe_callB call_isi hg hm (by decide +kernel) (pa_cons ha (pa_cons (pe_bltn (v := .ty (tyName t)) hg2 hm2 hb rfl hn hd) pa_nil) he) (he := he)).imp fun σ H Q ⟨ρ, S, m, G, q⟩ => ?_
  refine ⟨ρ, S, m, G, q.bind.imp fun x S1 m1 H1 e1 s1 q1 v1 r1 => ?_⟩
  obtain ⟨w, hw, q2⟩ := q1.lift
  obtain ⟨k, hk, rfl⟩ := Option.map_eq_some_iff.mp hw
  exact ⟨v1, .ty (tyName t), _, _, k, rfl, .ty _, tyx s1 r1 hk, kit_ty (kit_is hk), q2 m1 H1 (Ext.refl s1) s1 _ (.bl k)⟩
end
end MK

set_option linter.all false
set_option autoImplicit false
set_option Elab.async false
set_option maxRecDepth 100000
set_option maxHeartbeats 4000000
/-! MkObj: instances and dicts: their constructs' readings. -/
namespace MK
open PySem PySem.Spec PyProof.Rows L2

/-! ### keys -/
theorem keyV_inj {j k : PV} {a : Key} (h1 : keyV j = some a) (h2 : keyV k = some a) : j = k := by
  cases j <;> cases k <;> simp [keyV] at h1 h2 <;> subst h1 <;> simp at h2
  · rw [h2]
  · rw [strV_inj h2]
theorem keyV_of {k : PV} (h : isKey k = true) : ∃ a, keyV k = some a := by
  cases k <;> simp [isKey] at h <;> exact ⟨_, rfl⟩
section
variable {K : PySem.W.Frag} {m : Mp} {n : Nat} {H : Hp}
theorem kV_of {k : PV} {a : Key} {x : V} (h : keyV k = some a) (r : VR K m n H k x) : x = kV a := by
  cases r with
  | int i => cases h; rfl
  | str s hs => cases h; rfl
  | _ => cases h
theorem okS_of {k : PV} {x : V} (r : VR K m n H k x) : ∀ s, k = .str s → okS s := fun s e => by
  subst e
  cases r with
  | str _ h => exact h
theorem lookD_some {k : PV} {a : Key} (hk : keyV k = some a) : ∀ {ks us : List PV} {kvs : List (Key × V)} {v : PV}, KeyR ks kvs → VRs K m n H us (kvs.map (·.2)) → lookD k ks us = some v → ∃ x, valV kvs a = some x ∧ VR K m n H v x
  | [], us, [], v, _, r, h => by cases us <;> cases h
  | j :: ks, us, kv :: kvs, v, kr, r, h => by
    rw [List.map_cons] at r
    cases r with
    | @cons u w us ws r1 r2 =>
      have h : (if j = k then some u else lookD k ks us) = some v := h
      split at h
      · rename_i e
        cases h
        subst e
        have : kv.1 = a := Option.some.inj (kr.1.symm.trans hk)
        exact ⟨_, valV_pos this, r1⟩
      · rename_i e
        have : ¬ kv.1 = a := fun q => e (keyV_inj kr.1 (by rw [q]; exact hk))
        obtain ⟨x, h1, h2⟩ := lookD_some hk kr.2.2 r2 h
        exact ⟨x, (valV_neg this).trans h1, h2⟩
  | [], _, _ :: _, _, h, _, _ => h.elim
  | _ :: _, _, [], _, h, _, _ => h.elim
theorem lookD_none {k : PV} {a : Key} (hk : keyV k = some a) : ∀ {ks us : List PV} {kvs : List (Key × V)}, KeyR ks kvs → VRs K m n H us (kvs.map (·.2)) → lookD k ks us = none → valV kvs a = none
  | [], us, [], _, r, h => rfl
  | j :: ks, us, kv :: kvs, kr, r, h => by
    rw [List.map_cons] at r
    cases r with
    | @cons u w us ws r1 r2 =>
      have h : (if j = k then some u else lookD k ks us) = none := h
      split at h
      · cases h
      · rename_i e
        have : ¬ kv.1 = a := fun q => e (keyV_inj kr.1 (by rw [q]; exact hk))
        exact (valV_neg this).trans (lookD_none hk kr.2.2 r2 h)
  | [], _, _ :: _, h, _, _ => h.elim
  | _ :: _, _, [], h, _, _ => h.elim
theorem look_of {k : PV} {a : Key} (hk : keyV k = some a) {ks us : List PV} {kvs : List (Key × V)} (kr : KeyR ks kvs) (r : VRs K m n H us (kvs.map (·.2))) : (lookD k ks us).isSome = (valV kvs a).isSome := by
  cases h : lookD k ks us with
  | none => rw [lookD_none hk kr r h]; rfl
  | some v => obtain ⟨x, h1, _⟩ := lookD_some hk kr r h; rw [h1]; rfl
theorem any_key {k : PV} {a : Key} (hk : keyV k = some a) : ∀ {ks : List PV} {kvs : List (Key × V)}, KeyR ks kvs → (ks.any fun j => decide (j = k)) = kvs.any fun kv => decide (kv.1 = a)
  | [], [], _ => rfl
  | j :: ks, kv :: kvs, kr => by
    rw [List.any_cons, List.any_cons, any_key hk kr.2.2]
    congr 1
    refine decide_eq_decide.mpr ⟨fun e => ?_, fun e => keyV_inj kr.1 (by rw [e]; exact hk)⟩
    subst e
    exact Option.some.inj (kr.1.symm.trans hk)
  | [], _ :: _, h => h.elim
  | _ :: _, [], h => h.elim
theorem KeyR.snoc {k : PV} {a : Key} {x : V} (hk : keyV k = some a) (ho : ∀ s, k = .str s → okS s) : ∀ {ks : List PV} {kvs : List (Key × V)}, KeyR ks kvs → KeyR (ks ++ [k]) (kvs ++ [(a, x)])
  | [], [], _ => ⟨hk, ho, trivial⟩
  | j :: ks, kv :: kvs, kr => ⟨kr.1, kr.2.1, KeyR.snoc hk ho kr.2.2⟩
  | [], _ :: _, h => h.elim
  | _ :: _, [], h => h.elim
theorem setD_ok {k v : PV} {a : Key} {x : V} (hk : keyV k = some a) (rv : VR K m n H v x) : ∀ {ks us : List PV} {kvs : List (Key × V)}, KeyR ks kvs → VRs K m n H us (kvs.map (·.2)) →
    KeyR ks (kvs.map fun kv => if kv.1 = a then (kv.1, x) else kv) ∧ VRs K m n H (setD k v ks us) ((kvs.map fun kv => if kv.1 = a then (kv.1, x) else kv).map (·.2))
  | [], us, [], _, r => by cases r; exact ⟨trivial, .nil⟩
  | j :: ks, us, kv :: kvs, kr, r => by
    rw [List.map_cons] at r
    cases r with
    | @cons u w us ws r1 r2 =>
      obtain ⟨q1, q2⟩ := setD_ok hk rv kr.2.2 r2
      have he : j = k ↔ kv.1 = a := ⟨fun e => by subst e; exact Option.some.inj (kr.1.symm.trans hk), fun e => keyV_inj kr.1 (by rw [e]; exact hk)⟩
      by_cases e : j = k
      · have e2 := he.mp e
        refine ⟨?_, ?_⟩
        · rw [List.map_cons, if_pos e2]; exact ⟨kr.1, kr.2.1, q1⟩
        · rw [List.map_cons, if_pos e2, List.map_cons]
          show VRs K m n H ((if j = k then v else u) :: _) _
          rw [if_pos e]
          exact .cons rv q2
      · have e2 : ¬ kv.1 = a := fun q => e (he.mpr q)
        refine ⟨?_, ?_⟩
        · rw [List.map_cons, if_neg e2]; exact ⟨kr.1, kr.2.1, q1⟩
        · rw [List.map_cons, if_neg e2, List.map_cons]
          show VRs K m n H ((if j = k then v else u) :: _) _
          rw [if_neg e]
          exact .cons r1 q2
  | [], _, _ :: _, h, _ => h.elim
  | _ :: _, _, [], h, _ => h.elim
theorem put_ok {k v : PV} {a : Key} {x : V} (hk : keyV k = some a) (ho : ∀ s, k = .str s → okS s) (rv : VR K m n H v x) {ks us : List PV} {kvs : List (Key × V)} (kr : KeyR ks kvs) (r : VRs K m n H us (kvs.map (·.2))) :
    KeyR (putD k v ks us).1 (putK kvs a x) ∧ VRs K m n H (putD k v ks us).2 ((putK kvs a x).map (·.2)) := by
  unfold putD putK
  rw [any_key hk kr]
  split
  · exact setD_ok hk rv kr r
  · refine ⟨kr.snoc hk ho, ?_⟩
    rw [List.map_append]
    exact r.append (.cons rv .nil)
/-! ### fields -/
theorem lookF_ok {f : List Nat} : ∀ {fs : List (List Nat × PV)} {fvs : List (Str × V)}, fvs.map (·.1) = fs.map (fun p => strV p.1) → VRs K m n H (fs.map (·.2)) (fvs.map (·.2)) →
    (∀ v, lookF f fs = some v → ∃ x, fvs.lookup (strV f) = some x ∧ VR K m n H v x) ∧ (lookF f fs = none → fvs.lookup (strV f) = none)
  | [], [], _, _ => ⟨fun v h => (by cases h), fun _ => rfl⟩
  | (g, u) :: fs, (gs, w) :: fvs, h, r => by
    rw [List.map_cons, List.map_cons] at h r
    injection h with h1 h2
    cases r with
    | cons r1 r2 =>
      obtain ⟨q1, q2⟩ := lookF_ok (f := f) h2 r2
      have h1 : gs = strV g := h1
      subst h1
      have hl : List.lookup (strV f) ((strV g, w) :: fvs) = if strV f == strV g then some w else List.lookup (strV f) fvs := by
        show (match strV f == strV g with | true => some w | false => List.lookup (strV f) fvs) = _
        cases strV f == strV g <;> rfl
      rw [hl]
      show (∀ v, (if g = f then some u else lookF f fs) = some v → _) ∧ ((if g = f then some u else lookF f fs) = none → _)
      by_cases e : g = f
      · subst e
        rw [if_pos rfl, if_pos (beq_self_eq_true _)]
        exact ⟨fun v hv => (by cases hv; exact ⟨w, rfl, r1⟩), fun hv => (by cases hv)⟩
      · have : (strV f == strV g) = false := beq_eq_false_iff_ne.mpr fun q => e (strV_inj q).symm
        rw [if_neg e, this, if_neg Bool.false_ne_true]
        exact ⟨q1, q2⟩
  | [], _ :: _, h, _ => by cases h
  | _ :: _, [], h, _ => by cases h
theorem putN_ok {f : List Nat} {v : PV} {x : V} (rv : VR K m n H v x) : ∀ {fs : List (List Nat × PV)} {fvs : List (Str × V)}, fvs.map (·.1) = fs.map (fun p => strV p.1) → VRs K m n H (fs.map (·.2)) (fvs.map (·.2)) →
    (putF (strV f) x fvs).map (·.1) = (putN f v fs).map (fun p => strV p.1) ∧ VRs K m n H ((putN f v fs).map (·.2)) ((putF (strV f) x fvs).map (·.2))
  | [], [], _, _ => ⟨rfl, .cons rv .nil⟩
  | (g, u) :: fs, (gs, w) :: fvs, h, r => by
    rw [List.map_cons, List.map_cons] at h r
    injection h with h1 h2
    cases r with
    | cons r1 r2 =>
      obtain ⟨q1, q2⟩ := putN_ok (f := f) rv h2 r2
      have h1 : gs = strV g := h1
      subst h1
      show List.map (·.1) (if strV g = strV f then (strV g, x) :: fvs else (strV g, w) :: putF (strV f) x fvs) = List.map (fun p => strV p.1) (if g = f then (g, v) :: fs else (g, u) :: putN f v fs) ∧
        VRs K m n H (List.map (·.2) (if g = f then (g, v) :: fs else (g, u) :: putN f v fs)) (List.map (·.2) (if strV g = strV f then (strV g, x) :: fvs else (strV g, w) :: putF (strV f) x fvs))
      by_cases e : g = f
      · subst e
        rw [if_pos rfl, if_pos rfl]
        exact ⟨by rw [List.map_cons, List.map_cons, h2], .cons rv r2⟩
      · have : ¬ strV g = strV f := fun q => e (strV_inj q)
        rw [if_neg e, if_neg this]
        exact ⟨by rw [List.map_cons, List.map_cons, q1], .cons r1 q2⟩
  | [], _ :: _, h, _ => by cases h
  | _ :: _, [], h, _ => by cases h
end
end MK

set_option linter.all false
set_option autoImplicit false
set_option Elab.async false
set_option maxRecDepth 100000
set_option maxHeartbeats 4000000
/-! MkObj2: instances and dicts: the expressions. -/
namespace MK
open PySem PySem.Spec PyProof.Rows L2
section
variable {X : Cx} {xC : Xs} {W : WX} {a b c e o : Expr} {es : List Expr} {f g h : Env → Store → Out PV} {l : Env → Store → Out (List PV)} {pos apos cpos : Pos}
/-! ### pop, reverse -/
theorem e_pop (ho : PE X o (tE X.K xC W f)) (hbase : attributeBase o "pop" X.env (eval o X.env) = eval o X.env) (hline : (apos.endLine == cpos.line) = true) :
    PE X (.Call (.Attribute o "pop" apos) [] [] cpos) (tE X.K xC W fun ρ S => (f ρ S).bind fun x S1 => popOf S1 x) := by
  refine (pe_bm0 PySem.F.plainAttrs_list PySem.F.slot_list_pop PySem.F.type_list_pop (show MtR X "list.pop" rPop from mt_pop) ho hbase hline).imp fun σ H Q ⟨ρ, S, m, G, q⟩ => ?_
  refine ⟨ρ, S, m, G, OP.imp (fun x S1 m1 H1 e1 s1 q1 v1 r1 => ?_) (OP.bind q)⟩
  unfold popOf at q1
  split at q1
  · rename_i n
    cases r1 with
    | ref hn =>
      split at q1
      · rename_i xs hx
        split at q1
        · rename_i v hv
          obtain ⟨vs, e3, r3⟩ := s1.cell n _ hx
          have hl := r3.length
          have hv2 : xs[xs.length - 1]? = some v := by rw [← List.getLast?_eq_getElem?]; exact hv
          obtain ⟨y, hy, ry⟩ := r3.get hv2
          refine ⟨.inl ⟨rfl, vs, .inl (.inl e3)⟩, m1.at_ n, vs, y, rfl, rfl, e3, by rw [← hl]; exact hy, ?_⟩
          have ex : Ext m1 S1.length H1 m1 (S1.set n (Cell.lst xs.dropLast)).length (upd H1 (m1.at_ n) (.lst vs.dropLast)) := by
            rw [List.length_set]
            exact Ext.write s1 hn
          have hd : VRs X.K m1 S1.length H1 xs.dropLast vs.dropLast := by
            rw [List.dropLast_eq_take, List.dropLast_eq_take, ← hl]
            exact r3.take _
          refine q1 m1 _ ex (s1.write hn hd) y ?_
          rw [List.length_set]
          exact VR.wr s1 (s1.inZ n hn) ry
        · exact q1.elim
      · exact q1.elim
  · exact q1.elim
theorem e_rev {k : Nat} {p1 p2 p3 : Pos} (ha : PE X a (tE X.K xC W f)) : PE X (.Subscript a (.Slice none none (some (.UnaryOp .USub (.Constant (.int 1) k p1) p2)) p3) pos)
    (tE X.K xC W fun ρ S => (f ρ S).bind fun x S1 => match x with | .str s => .ok (.str s.reverse) S1 | _ => .bad) := by
  refine (pe_revS ha).imp fun σ H Q ⟨ρ, S, m, G, q⟩ => ?_
  refine ⟨ρ, S, m, G, OP.imp (fun x S1 m1 H1 e1 s1 q1 v1 r1 => ?_) (OP.bind q)⟩
  cases r1 with
  | str s hs =>
    refine ⟨strV s, rfl, by rw [strV_length, ← SZ_eq]; exact hs.1, ?_⟩
    rw [strV_cps]
    exact q1 m1 H1 (Ext.refl s1) s1 _ (.str _ ⟨by rw [List.length_reverse]; exact hs.1, fun c hc => hs.2 c (List.mem_reverse.mp hc)⟩)
  | _ => exact q1.elim
/-! ### attributes -/
/-- the class lets its instances bear the field -/
structure FldOk (K : PySem.W.Frag) (c f : List Nat) : Prop where
  cls : Cls K (clA K c)
  no : NoAttr K (clA K c) (strV f)
theorem e_fld {c n : List Nat} {x : Str} (hx : x = strV n) (hc : FldOk X.K c n) (ha : PE X a (tE X.K xC W f)) (hb : attributeBase a x X.env (eval a X.env) = eval a X.env) :
    PE X (.Attribute a x pos) (tE X.K xC W fun ρ S => (f ρ S).bind fun v S1 => lift S1 (fldOf S1 c v n)) := by
  subst hx
  refine (pe_fld ha hb).imp fun σ H Q ⟨ρ, S, m, G, q⟩ => ?_
  refine ⟨ρ, S, m, G, OP.imp (fun x S1 m1 H1 e1 s1 q1 v1 r1 => ?_) (OP.bind q)⟩
  obtain ⟨v, hv, q2⟩ := q1.lift
  unfold fldOf at hv
  split at hv
  · rename_i c' fs hi
    split at hv
    · rename_i hcc
      subst hcc
      obtain ⟨k, dx, fvs, rfl, hk, hS, rfl, hH, e1', r⟩ := VR.insOf s1 r1 hi
      obtain ⟨y, hy, ry⟩ := (lookF_ok e1' r).1 v hv
      exact ⟨_, _, dx, fvs, y, rfl, hH, hc.cls, hc.no, hy, q2 m1 H1 (Ext.refl s1) s1 y ry⟩
    · cases hv
  · cases hv
/-! ### methods of own classes -/
theorem meth_tree {o : Expr} {m : Str} {apos pos : Pos} {args : List Expr} {env : PySem.Env} (hbase : attributeBase o m env (eval o env) = eval o env) (hf : methodCallForm args.length (backTo pos (starEach args env)) (backToKw pos (keywordEach [] env)) = true) (hl : (apos.endLine == pos.line) = true) :
    eval (.Call (.Attribute o m apos) args [] pos) env = (do
      let ov ← eval o env
      standAt apos.atName
      let (f, first) ← holding [ov] (getMethod ov m (do return (← importBound o env).getD true))
      callWith pos f first (backTo pos (starEach args env)) (backToKw pos (keywordEach [] env))) := by
  rw [arm_eval_Call, hbase]
  have e2 : ∀ ov, methodCall o m apos pos env ov (args.length + ([] : List Keyword).length) (backTo pos (starEach args env)) (backToKw pos (keywordEach [] env)) = (do
      let (f, first) ← holding [ov] (getMethod ov m (do return (← importBound o env).getD true))
      callWith pos f first (backTo pos (starEach args env)) (backToKw pos (keywordEach [] env))) := fun ov => by
    unfold methodCall calleeOf methodCallPos
    rw [show args.length + ([] : List Keyword).length = args.length from rfl, hf, hl]
    rfl
  simp only [e2]
def tMethE (C : Addr) (m : Str) (sp : Sp) (E : L2.St → XK) (ta : TE) (t : TA) : TE := fun σ H Q => ta σ H fun x H1 => ∃ a dx fs, x = .ref a ∧ H1 a = some (.ins C dx fs) ∧ fs.lookup m = none ∧ t σ H1 fun vs H2 => sp (x :: vs) H2 Q (E σ)
section
variable {C fa : Addr} {k : Nat} {fd : FuncData} {ps : List Str} {sp : Sp} {E : L2.St → XK} {mn : Str} {ta : TE} {t : TA} {pl : Sem Bool}
theorem pe_methE {e : Expr} (he : PE X o ta) (c : Cls X.K C) (hm : Meth X.K C mn fa) (F : FnOk X.prog X.w X.K X.mg X.base (L2.CX X.prog X.w) k fa fd ps sp) (hr : Room k X.A) (hb : Binds X.K fd ps []) (hx : ∀ σ, PassesAt (L2.CX X.prog X.w) X σ (E σ)) (ha : PA X (e :: es) t)
    (hst : starEach (e :: es) X.env = (false, eval e X.env) :: starEach es X.env) (hpl : (backTo pos (starEach es X.env)).any (·.1) = false)
    (ht : eval (.Call (.Attribute o mn apos) (e :: es) [] pos) X.env = (do
      let ov ← eval o X.env
      standAt apos.atName
      let (f, first) ← holding [ov] (getMethod ov mn pl)
      callWith pos f first (backTo pos (starEach (e :: es) X.env)) (backToKw pos (keywordEach [] X.env)))) :
    PE X (.Call (.Attribute o mn apos) (e :: es) [] pos) (tMethE C mn sp E ta t) := by
  refine ⟨fun pins s σ H Q I h => ?_⟩
  refine PySem.W.methodCall_KW (pl := pl) (thn (he.run pins s σ H _ I h) fun u s1 ⟨x, H1, I1, rx, a, dx, fs, ex, ea, l, q⟩ => ?_) ht
  subst ex
  obtain rfl : u = Value.ref a := rx
  refine getmeth_ok I1 ea c hm l ?_
  refine PySem.W.callWith_K (first := [.ref a]) (h₀ := X.base) I.ok.mod.kin hm.kp (thn (ha.run pos pins s1 σ H1 _ I1 q) fun us s2 ⟨vs, H2, I2, r, q2⟩ => ⟨I2.kIn, ?_⟩) hst hpl
  exact run_fnS (us := .ref a :: us) (vs := .ref a :: vs) F hr hb (hx σ) I2 (.cons rfl r) q2
theorem pe_methE0 (he : PE X o ta) (c : Cls X.K C) (hm : Meth X.K C mn fa) (F : FnOk X.prog X.w X.K X.mg X.base (L2.CX X.prog X.w) k fa fd ps sp) (hr : Room k X.A) (hb : Binds X.K fd ps []) (hx : ∀ σ, PassesAt (L2.CX X.prog X.w) X σ (E σ))
    (ht : eval (.Call (.Attribute o mn apos) [] [] pos) X.env = (do
      let ov ← eval o X.env
      standAt apos.atName
      let (f, first) ← holding [ov] (getMethod ov mn pl)
      callWith pos f first (backTo pos (starEach [] X.env)) (backToKw pos (keywordEach [] X.env)))) :
    PE X (.Call (.Attribute o mn apos) [] [] pos) (tMethE C mn sp E ta tNil) := by
  refine ⟨fun pins s σ H Q I h => ?_⟩
  refine PySem.W.methodCall_KW (pl := pl) (thn (he.run pins s σ H _ I h) fun u s1 ⟨x, H1, I1, rx, a, dx, fs, ex, ea, l, q⟩ => ?_) ht
  subst ex
  obtain rfl : u = Value.ref a := rx
  refine getmeth_ok I1 ea c hm l ?_
  exact PySem.W.callWith_K0 (first := [.ref a]) I1.kIn hm.kp (run_fnS (us := [.ref a]) (vs := [.ref a]) F hr hb (hx σ) I1 (.cons rfl .nil) q)
end
/-- o.m(..): what the evaluator does -/
theorem meth_end {c mn : List Nat} {np : Nat} {g : List PV → Store → Out PV} {σ : L2.St} {H : Hp} {Q : VK} {ρ : Env} {S : Store} {m : Mp} {lo : Out (List PV)}
    (G : Good X.K ρ S m σ H) {x : PV} {v : V} (r : VR X.K m S.length H x v) (hi : isIns S x c mn = true) (hl : ∀ vs S', lo = .ok vs S' → vs.length + 1 = np)
    (q : OP X.K xC W σ m S H (fun v S' m' H' => ∀ x, VR X.K m' S'.length H' v x → Q x H') (lo.bind fun vs S2 => g (x :: vs) S2)) :
    ∃ a dx fs, v = .ref a ∧ H a = some (.ins (clA X.K c) dx fs) ∧ fs.lookup (strV mn) = none ∧ OP X.K xC W σ m S H (fun vs S' m' H' => ∀ xs, VRs X.K m' S'.length H' vs xs → spF X.K xC np g (v :: xs) H' Q (WE W σ)) lo := by
  unfold isIns at hi
  split at hi
  · rename_i c' fs hins
    obtain ⟨h1, h2⟩ := (Bool.and_eq_true _ _).mp hi
    have := of_decide_eq_true h1
    subst this
    obtain ⟨k, dx, fvs, rfl, hk, hS, rfl, hH, e1', r'⟩ := VR.insOf G.st r hins
    refine ⟨_, dx, fvs, rfl, hH, (lookF_ok e1' r').2 (Option.isNone_iff_eq_none.mp h2), ?_⟩
    cases lo with
    | ok vs S1 =>
      intro m1 H1 ex s1 xs rs
      exact ⟨_ :: vs, S1, m1, s1, .cons (VR.on G.st ex r) rs, by rw [List.length_cons]; exact hl vs S1 rfl, OP.wish (W := W) (σ := σ) (fun _ _ _ w => w) (OP.ext ex q)⟩
    | exc c as S1 => exact q
    | bad => exact q
  · cases hi
theorem e_meth {c mn : List Nat} {k np : Nat} {fa : Addr} {fd : FuncData} {ps : List Str} {x : Str} {e : Expr} {g : List PV → Store → Out PV} (hx : x = strV mn) (tk : Takes X W) (ho : PE X o (tE X.K xC W f)) (cl : Cls X.K (clA X.K c)) (hm : Meth X.K (clA X.K c) x fa)
    (F : FnOk X.prog X.w X.K X.mg X.base (L2.CX X.prog X.w) k fa fd ps (spF X.K xC np g)) (hr : Room k X.A) (hb : Binds X.K fd ps []) (ha : PA X (e :: es) (tA X.K xC W l)) (hl : ∀ ρ S vs S', l ρ S = .ok vs S' → vs.length + 1 = np)
    (hst : starEach (e :: es) X.env = (false, eval e X.env) :: starEach es X.env) (hpl : (backTo pos (starEach es X.env)).any (·.1) = false)
    (hbase : attributeBase o x X.env (eval o X.env) = eval o X.env) (hf : methodCallForm (e :: es).length (backTo pos (starEach (e :: es) X.env)) (backToKw pos (keywordEach [] X.env)) = true) (hln : (apos.endLine == pos.line) = true) :
    PE X (.Call (.Attribute o x apos) (e :: es) [] pos) (tE X.K xC W fun ρ S => (f ρ S).bind fun x S1 => if isIns S1 x c mn then (l ρ S1).bind fun vs S2 => g (x :: vs) S2 else .bad) := by
  subst hx
  refine (pe_methE ho cl hm F hr hb (fun σ => passAt tk σ) ha hst hpl (meth_tree hbase hf hln)).imp fun σ H Q ⟨ρ, S, m, G, q⟩ => ?_
  refine ⟨ρ, S, m, G, OP.imp (fun x S1 m1 H1 e1 s1 q1 v1 r1 => ?_) (OP.bind q)⟩
  split at q1
  · rename_i hi
    have G1 := G.on e1 s1
    obtain ⟨a, dx, fs, h1, h2, h3, h4⟩ := meth_end G1 r1 hi (hl ρ S1) q1
    exact ⟨a, dx, fs, h1, h2, h3, ρ, S1, m1, G1, h4⟩
  · exact q1.elim
theorem e_meth0 {c mn : List Nat} {k : Nat} {fa : Addr} {fd : FuncData} {ps : List Str} {x : Str} {g : List PV → Store → Out PV} (hx : x = strV mn) (tk : Takes X W) (ho : PE X o (tE X.K xC W f)) (cl : Cls X.K (clA X.K c)) (hm : Meth X.K (clA X.K c) x fa)
    (F : FnOk X.prog X.w X.K X.mg X.base (L2.CX X.prog X.w) k fa fd ps (spF X.K xC 1 g)) (hr : Room k X.A) (hb : Binds X.K fd ps [])
    (hbase : attributeBase o x X.env (eval o X.env) = eval o X.env) (hln : (apos.endLine == pos.line) = true) :
    PE X (.Call (.Attribute o x apos) [] [] pos) (tE X.K xC W fun ρ S => (f ρ S).bind fun x S1 => if isIns S1 x c mn then (Out.ok [] S1).bind fun vs S2 => g (x :: vs) S2 else .bad) := by
  subst hx
  refine (pe_methE0 ho cl hm F hr hb (fun σ => passAt tk σ) (meth_tree hbase rfl hln)).imp fun σ H Q ⟨ρ, S, m, G, q⟩ => ?_
  refine ⟨ρ, S, m, G, OP.imp (fun x S1 m1 H1 e1 s1 q1 v1 r1 => ?_) (OP.bind q)⟩
  split at q1
  · rename_i hi
    have G1 := G.on e1 s1
    obtain ⟨a, dx, fs, h1, h2, h3, h4⟩ := meth_end (xC := xC) (W := W) (lo := .ok [] S1) G1 r1 hi (fun vs S' z => by cases z; rfl) q1
    exact ⟨a, dx, fs, h1, h2, h3, h4 m1 H1 (Ext.refl s1) s1 [] .nil⟩
  · exact q1.elim
/-! ### instances made -/
def tMakeE (C : Addr) (sp : Sp) (E : L2.St → XK) (t : TA) : TE := fun σ H Q => t σ H fun vs H1 => ∀ x dx, H1 x = none → H1 dx = none → dx ≠ x →
  sp (.ref x :: vs) (upd (upd H1 dx (.own x)) x (.ins C dx [])) (fun v H2 => v = .non ∧ Q (.ref x) H2) (E σ)
section
variable {C fa : Addr} {k : Nat} {fd : FuncData} {ps : List Str} {sp : Sp} {E : L2.St → XK} {t : TA} {x : Str} {p : Pos}
theorem run_makeE {pins : List (Addr × Obj)} {σ : L2.St} {H : Hp} {s : Shared} {Q : VK} {us : List Value} {vs : List V} (M : Mk X.K C fa) (F : FnOk X.prog X.w X.K X.mg X.base (L2.CX X.prog X.w) k fa fd ps sp) (hr : Room (k + 1) X.A) (hb : Binds X.K fd ps [])
    (hx : PassesAt (L2.CX X.prog X.w) X σ (E σ)) (I : Inv X pins σ H s) (r : Vals vs us)
    (h : ∀ x dx, H x = none → H dx = none → dx ≠ x → sp (.ref x :: vs) (upd (upd H dx (.own x)) x (.ins C dx [])) (fun v H2 => v = .non ∧ Q (.ref x) H2) (E σ)) :
    wpAny (model X.prog X.w) X.A (call (.ref C) us) (EP X pins σ Q) X.xe s := by
  have hq := h (s.heap.objs.size + 1) s.heap.objs.size (I.hok.fresh (Nat.le_succ _)) (I.hok.fresh (Nat.le_refl _)) (Nat.ne_of_lt (Nat.lt_succ_self _))
  have I2 := Inv.made (C := C) I
  have r2 : Vals (V.ref (s.heap.objs.size + 1) :: vs) (Value.ref (s.heap.objs.size + 1) :: us) := .cons rfl r
  have hl : (Value.ref (s.heap.objs.size + 1) :: us).length = ps.length := by
    have e := r2.length
    rw [F.len _ _ _ _ hq] at e
    exact e.symm
  have b := hb _ (Value.ref (s.heap.objs.size + 1) :: us) I2.kIn (by rw [List.append_nil]; exact hl)
  rw [List.append_nil] at b
  refine wpAny_call (make_map (f := fa) I.kIn M.makes M.init (beq_iff_eq.mp M.fn) (codeAny_mono (F.run _ X.stack _ _ ⟨Value.ref (s.heap.objs.size + 1) :: us, []⟩ (Value.ref (s.heap.objs.size + 1) :: us) _ _ (E σ) (hr.make C us [])
    (I2.env0.make C us []) b r2 hq) fun r s' hq' => ?_))
  cases r with
  | error e => exact hx pins _ _ e s' I2 hq'
  | ok fl =>
    cases fl with
    | ret u =>
      obtain ⟨v, H', I3, rv, ev, q3⟩ := I2.after hq'
      subst ev
      exact ⟨rv, ⟨V.ref (s.heap.objs.size + 1), H', I3, rfl, q3⟩⟩
    | next => exact False.elim hq'
    | brk => exact False.elim hq'
    | cont => exact False.elim hq'
theorem pe_makeE {e : Expr} (M : Mk X.K C fa) (F : FnOk X.prog X.w X.K X.mg X.base (L2.CX X.prog X.w) k fa fd ps sp) (hr : Room (k + 1) X.A) (hg : Gl X x) (hm : X.mg x = some (.ref C)) (hb : Binds X.K fd ps []) (hx : ∀ σ, PassesAt (L2.CX X.prog X.w) X σ (E σ))
    (ha : PA X (e :: es) t) (hdb : (x == ("__debug__" : Str)) = false) (he : starEach (e :: es) X.env = (false, eval e X.env) :: starEach es X.env) (hpl : (backTo pos (starEach es X.env)).any (·.1) = false) :
    PE X (.Call (.Name x p) (e :: es) [] pos) (tMakeE C sp E t) := by
  refine ⟨fun pins s σ H Q I h => ?_⟩
  refine wpAny_Call_Name_kw (ld_glob I hg hm ?_ hdb)
  refine PySem.W.callWith_K (h₀ := X.base) I.ok.mod.kin M.kp (thn (ha.run pos pins s σ H _ I h) fun us s1 ⟨vs, H1, I1, r, q⟩ => ⟨I1.kIn, ?_⟩) he hpl
  exact run_makeE M F hr hb (hx σ) I1 r q
end
theorem e_make {c : List Nat} {k np : Nat} {fa : Addr} {fd : FuncData} {ps : List Str} {x : Str} {p : Pos} {e : Expr} {g : List PV → Store → Out PV} (hm : X.mg x = some (.ref (clA X.K c))) (tk : Takes X W) (M : Mk X.K (clA X.K c) fa)
    (F : FnOk X.prog X.w X.K X.mg X.base (L2.CX X.prog X.w) k fa fd ps (spF X.K xC np g)) (hr : Room (k + 1) X.A) (hg : Gl X x) (hb : Binds X.K fd ps []) (ha : PA X (e :: es) (tA X.K xC W l)) (hl : ∀ ρ S vs S', l ρ S = .ok vs S' → vs.length + 1 = np)
    (hdb : (x == ("__debug__" : Str)) = false) (he : starEach (e :: es) X.env = (false, eval e X.env) :: starEach es X.env) (hpl : (backTo pos (starEach es X.env)).any (·.1) = false) :
    PE X (.Call (.Name x p) (e :: es) [] pos) (tE X.K xC W fun ρ S => (l ρ S).bind fun vs S1 => (g (.ref S1.length :: vs) (S1 ++ [.ins c []])).bind fun v S2 => match v with | .non => .ok (.ref S1.length) S2 | _ => .bad) := by
  refine (pe_makeE M F hr hg hm hb (fun σ => passAt tk σ) ha hdb he hpl).imp fun σ H Q ⟨ρ, S, m, G, q⟩ => ?_
  have hl' := hl ρ S
  refine ⟨ρ, S, m, G, ?_⟩
  dsimp only at q
  generalize l ρ S = lo at hl' q
  cases lo with
  | ok vs S1 =>
    have hn := hl' vs S1 rfl
    intro m1 H1 e1 s1 xs r x' dx hx hdx hne
    -- the dict, then the instance
    have sd : StoreR X.K S1 m1 (upd H1 dx (.own x')) := s1.push hdx
    have ed : Ext m1 S1.length H1 m1 S1.length (upd H1 dx (.own x')) := Ext.push s1 hdx
    have hx2 : upd H1 dx (.own x') x' = none := (upd_ne (Ne.symm hne)).trans hx
    have ei := Ext.place (o := HO.ins (clA X.K c) dx []) sd hx2
    have si : StoreR X.K (S1 ++ [Cell.ins c []]) (ext1 m1 S1.length x') (upd (upd H1 dx (.own x')) x' (.ins (clA X.K c) dx [])) :=
      sd.placeC hx2 trivial ⟨dx, [], upd_same, rfl, .nil⟩
    have ll : (S1 ++ [Cell.ins c []]).length = S1.length + 1 := by simp
    have e2 : Ext m1 S1.length H1 (ext1 m1 S1.length x') (S1 ++ [Cell.ins c []]).length (upd (upd H1 dx (.own x')) x' (.ins (clA X.K c) dx [])) := by
      rw [ll]; exact ed.trans ei
    have rx : VR X.K (ext1 m1 S1.length x') (S1 ++ [Cell.ins c []]).length (upd (upd H1 dx (.own x')) x' (.ins (clA X.K c) dx [])) (.ref S1.length) (.ref x') := by
      have : VR X.K (ext1 m1 S1.length x') (S1 ++ [Cell.ins c []]).length (upd (upd H1 dx (.own x')) x' (.ins (clA X.K c) dx [])) (.ref S1.length) (.ref ((ext1 m1 S1.length x').at_ S1.length)) := .ref (by rw [ll]; omega)
      rwa [ext1_same] at this
    refine ⟨.ref S1.length :: vs, S1 ++ [.ins c []], ext1 m1 S1.length x', si, .cons rx (VRs.on s1 e2 r), by rw [List.length_cons]; exact hn, OP.wish (W := W) (σ := σ) (fun _ _ _ w => w) ?_⟩
    refine OP.imp (fun v S2 m2 H2 e3 s3 q3 y ry => ?_) (OP.bind (OP.ext (e1.trans e2) q))
    cases v with
    | non =>
      cases ry
      refine ⟨rfl, ?_⟩
      have := q3 m2 H2 (Ext.refl s3) s3 _ (VR.on si e3 rx)
      exact this
    | _ => exact q3.elim
  | exc c as S1 => exact q
  | bad => exact q
end
end MK

set_option linter.all false
set_option autoImplicit false
set_option Elab.async false
set_option maxRecDepth 100000
set_option maxHeartbeats 4000000
/-! MkDic: dicts: the expressions. -/
namespace MK
open PySem PySem.Spec PyProof.Rows L2
section
variable {X : Cx} {xC : Xs} {W : WX} {a b c e o : Expr} {es : List Expr} {f g h : Env → Store → Out PV} {l : Env → Store → Out (List PV)} {pos apos cpos : Pos}
/-- what stands in a dict of the store at a key -/
theorem dGet_of {S : Store} {m : Mp} {H : Hp} {x y : PV} {v w : V} {r : Option PV} (st : StoreR X.K S m H) (r1 : VR X.K m S.length H x v) (r2 : VR X.K m S.length H y w) (h : dicGet S x y = some r) :
    ∃ a ov, v = .ref a ∧ DGet H a w ov ∧ (∀ u, r = some u → ∃ z, ov = some z ∧ VR X.K m S.length H u z) ∧ (r = none → ov = none) := by
  unfold dicGet at h
  split at h
  · rename_i ks us hd
    split at h
    · rename_i hk
      cases h
      obtain ⟨k, kvs, rfl, hkk, hS, rfl, hH, kr, rs⟩ := VR.dicOf st r1 hd
      obtain ⟨ka, hka⟩ := keyV_of hk
      have := kV_of hka r2
      subst this
      exact ⟨_, _, rfl, DGet.k hH, fun u hu => lookD_some hka kr rs hu, fun hn => lookD_none hka kr rs hn⟩
    · cases h
  · cases h
theorem isDic_of {S : Store} {m : Mp} {H : Hp} {x : PV} {v : V} (st : StoreR X.K S m H) (r1 : VR X.K m S.length H x v) (h : isDic S x = true) : ∃ a, v = .ref a ∧ IsD H a := by
  unfold isDic at h
  cases hd : dicOf S x with
  | none => rw [hd] at h; cases h
  | some p =>
    obtain ⟨ks, us⟩ := p
    obtain ⟨k, kvs, rfl, hkk, hS, rfl, hH, kr, rs⟩ := VR.dicOf st r1 hd
    exact ⟨_, rfl, .inl ⟨kvs, .inl hH⟩⟩
theorem e_dix (hu : X.A.units + 1 < cLine) (ha : PE X a (tE X.K xC W f)) (hb : PE X b (tE X.K xC W g)) (hs : NoSl b) : PE X (.Subscript a b pos)
    (tE X.K xC W fun ρ S => (f ρ S).bind fun x S1 => (g ρ S1).bind fun y S2 => match dicGet S2 x y with | some (some v) => .ok v S2 | _ => .bad) := by
  refine (pe_dget hu ha hb hs).imp fun σ H Q ⟨ρ, S, m, G, q⟩ => ?_
  refine ⟨ρ, S, m, G, OP.imp (fun x S1 m1 H1 e1 s1 q1 v1 r1 => ⟨ρ, S1, m1, G.on e1 s1, OP.imp (fun y S2 m2 H2 e2 s2 q2 v2 r2 => ?_) (OP.bind q1)⟩) (OP.bind q)⟩
  split at q2
  · rename_i v hv
    obtain ⟨a, ov, h1, h2, h3, h4⟩ := dGet_of s2 (VR.on s1 e2 r1) r2 hv
    obtain ⟨z, rfl, rz⟩ := h3 v rfl
    exact ⟨a, z, h1, h2, q2 m2 H2 (Ext.refl s2) s2 z rz⟩
  · exact q2.elim
theorem e_dget (hu : X.A.units + 1 < cLine) (ha : PE X a (tE X.K xC W f)) (hb : PE X b (tE X.K xC W g)) (m1 : M1 X a "get" apos b cpos) : PE X (.Call (.Attribute a "get" apos) [b] [] cpos)
    (tE X.K xC W fun ρ S => (f ρ S).bind fun x S1 => if isDic S1 x then (g ρ S1).bind fun y S2 => match dicGet S2 x y with | some r => .ok (r.getD .non) S2 | none => .bad else .bad) := by
  refine (pe_dget1 hu ha hb m1).imp fun σ H Q ⟨ρ, S, m, G, q⟩ => ?_
  refine ⟨ρ, S, m, G, OP.imp (fun x S1 m1 H1 e1 s1 q1 v1 r1 => ?_) (OP.bind q)⟩
  split at q1
  · rename_i hd
    obtain ⟨p, hp, hi⟩ := isDic_of s1 r1 hd
    refine ⟨p, hp, hi, ρ, S1, m1, G.on e1 s1, OP.imp (fun y S2 m2 H2 e2 s2 q2 v2 r2 => ?_) (OP.bind q1)⟩
    split at q2
    · rename_i r hv
      obtain ⟨a, ov, h1, h2, h3, h4⟩ := dGet_of s2 (VR.on s1 e2 r1) r2 hv
      have : p = a := by rw [hp] at h1; exact V.ref.inj h1
      subst this
      refine ⟨ov, h2, ?_⟩
      cases r with
      | none => rw [h4 rfl]; exact q2 m2 H2 (Ext.refl s2) s2 _ .non
      | some u => obtain ⟨z, rfl, rz⟩ := h3 u rfl; exact q2 m2 H2 (Ext.refl s2) s2 z rz
    · exact q2.elim
  · exact q1.elim
theorem e_dget2 {d : Expr} (hu : X.A.units + 1 < cLine) (ha : PE X a (tE X.K xC W f)) (hb : PE X b (tE X.K xC W g)) (hd : PE X d (tE X.K xC W h)) (m1 : M2 X a "get" apos b d cpos) : PE X (.Call (.Attribute a "get" apos) [b, d] [] cpos)
    (tE X.K xC W fun ρ S => (f ρ S).bind fun x S1 => if isDic S1 x then (g ρ S1).bind fun y S2 => (h ρ S2).bind fun z S3 => match dicGet S3 x y with | some r => .ok (r.getD z) S3 | none => .bad else .bad) := by
  refine (pe_dget2 hu ha hb hd m1).imp fun σ H Q ⟨ρ, S, m, G, q⟩ => ?_
  refine ⟨ρ, S, m, G, OP.imp (fun x S1 m1 H1 e1 s1 q1 v1 r1 => ?_) (OP.bind q)⟩
  split at q1
  · rename_i hdd
    obtain ⟨p, hp, hi⟩ := isDic_of s1 r1 hdd
    refine ⟨p, hp, hi, ρ, S1, m1, G.on e1 s1, OP.imp (fun y S2 m2 H2 e2 s2 q2 v2 r2 => ⟨ρ, S2, m2, (G.on e1 s1).on e2 s2, OP.imp (fun z S3 m3 H3 e3 s3 q3 v3 r3 => ?_) (OP.bind q2)⟩) (OP.bind q1)⟩
    split at q3
    · rename_i r hv
      obtain ⟨a, ov, h1, h2, h3, h4⟩ := dGet_of s3 (VR.on s2 e3 (VR.on s1 e2 r1)) (VR.on s2 e3 r2) hv
      have : p = a := by rw [hp] at h1; exact V.ref.inj h1
      subst this
      refine ⟨ov, h2, ?_⟩
      cases r with
      | none => rw [h4 rfl]; exact q3 m3 H3 (Ext.refl s3) s3 _ r3
      | some u => obtain ⟨w, rfl, rw'⟩ := h3 u rfl; exact q3 m3 H3 (Ext.refl s3) s3 w rw'
    · exact q3.elim
  · exact q1.elim
theorem tT_tE {K : PySem.W.Frag} {f : Env → Store → Out PV} {σ : L2.St} {H : Hp} {Q : Bool → Hp → Prop} (h : tT K xC W f σ H Q) : tE K xC W f σ H fun x H' => ∃ d, x = V.bl d ∧ Q d H' := by
  obtain ⟨ρ, S, m, G, q⟩ := h
  refine ⟨ρ, S, m, G, OP.imp (fun v S1 m1 H1 e1 s1 q1 x r1 => ?_) q⟩
  obtain ⟨b, rfl, q2⟩ := q1
  cases r1
  exact ⟨b, rfl, q2⟩
theorem et_din {neg : Bool} (hu : X.A.units + 1 < cLine) (hb : PE X b (tE X.K xC W g)) (ha : PE X a (tE X.K xC W f)) (hm : behindInMarks (if neg then .NotIn else .In) a = false) : (PE X (.Compare b [if neg then .NotIn else .In] [a] pos) (tE X.K xC W fun ρ S => (g ρ S).bind fun y S1 => (f ρ S1).bind fun x S2 => match dicGet S2 x y with | some r => .ok (.bl (if neg then !r.isSome else r.isSome)) S2 | none => .bad)) ∧ PT X (.Compare b [if neg then .NotIn else .In] [a] pos) (tT X.K xC W fun ρ S => (g ρ S).bind fun y S1 => (f ρ S1).bind fun x S2 => match dicGet S2 x y with | some r => .ok (.bl (if neg then !r.isSome else r.isSome)) S2 | none => .bad) := by
  have key : ∀ σ H Q, tE X.K xC W (fun ρ S => (g ρ S).bind fun y S1 => (f ρ S1).bind fun x S2 => match dicGet S2 x y with | some r => .ok (.bl (if neg then !r.isSome else r.isSome)) S2 | none => .bad) σ H Q →
      tE X.K xC W g σ H fun y H1 => tE X.K xC W f σ H1 fun x H2 => ∃ a o, x = .ref a ∧ DGet H2 a y o ∧ Q (.bl (if neg then !o.isSome else o.isSome)) H2 := by
    intro σ H Q ⟨ρ, S, m, G, q⟩
    refine ⟨ρ, S, m, G, OP.imp (fun y S1 m1 H1 e1 s1 q1 v1 r1 => ⟨ρ, S1, m1, G.on e1 s1, OP.imp (fun x S2 m2 H2 e2 s2 q2 v2 r2 => ?_) (OP.bind q1)⟩) (OP.bind q)⟩
    split at q2
    · rename_i r hv
      obtain ⟨a, ov, h1, h2, h3, h4⟩ := dGet_of s2 r2 (VR.on s1 e2 r1) hv
      have he : ov.isSome = r.isSome := by
        cases r with
        | none => rw [h4 rfl]; rfl
        | some u => obtain ⟨z, rfl, _⟩ := h3 u rfl; rfl
      refine ⟨a, ov, h1, h2, ?_⟩
      rw [he]
      exact q2 m2 H2 (Ext.refl s2) s2 _ (.bl _)
    · exact q2.elim
  cases neg with
  | false => exact ⟨(pe_cmp (pc_din hu hb ha) hm).imp key, (pt_cmp (pc_din hu hb ha) hm).imp fun σ H Q h => key _ _ _ (tT_tE h)⟩
  | true => exact ⟨(pe_cmp (pc_dnotin hu hb ha) hm).imp key, (pt_cmp (pc_dnotin hu hb ha) hm).imp fun σ H Q h => key _ _ _ (tT_tE h)⟩
end
end MK

set_option linter.all false
set_option autoImplicit false
set_option Elab.async false
set_option maxRecDepth 100000
set_option maxHeartbeats 4000000
/-! MkGd: dicts of the module: texts to numbers; displays. -/
namespace MK
open PySem PySem.Spec PyProof.Rows L2
/-- the entries of a written dict, as the core has them -/
def EntR : List (List Nat × Int) → List DictEntry → Prop
  | [], [] => True
  | (k, v) :: d, e :: es => (∃ t, e.key = .str (strV k) t) ∧ (∃ t, e.val = .int v t) ∧ EntR d es
  | _, _ => False
theorem ent_find {k : List Nat} : ∀ {d : List (List Nat × Int)} {es : List DictEntry}, EntR d es →
    (∀ v, lookT k d = some v → ∃ e t, es.find? (·.key.isStr (strV k)) = some e ∧ e.val = .int v t) ∧ (lookT k d = none → es.find? (·.key.isStr (strV k)) = none)
  | [], [], _ => ⟨fun v h => (by cases h), fun _ => rfl⟩
  | (j, u) :: d, e :: es, h => by
    obtain ⟨⟨t, h1⟩, ⟨t2, h2⟩, h3⟩ := h
    obtain ⟨q1, q2⟩ := ent_find (k := k) h3
    have hb : e.key.isStr (strV k) = decide (j = k) := by
      rw [h1]
      show (strV j == strV k) = _
      by_cases e' : j = k
      · rw [e', decide_eq_true rfl]; exact beq_self_eq_true _
      · rw [decide_eq_false e']; exact beq_eq_false_iff_ne.mpr fun q => e' (strV_inj q)
    rw [List.find?_cons, hb]
    show (∀ v, (if j = k then some u else lookT k d) = some v → _) ∧ ((if j = k then some u else lookT k d) = none → _)
    by_cases e' : j = k
    · rw [if_pos e', decide_eq_true e']
      exact ⟨fun v hv => (by cases hv; exact ⟨e, t2, rfl, h2⟩), fun hv => (by cases hv)⟩
    · rw [if_neg e', decide_eq_false e']
      exact ⟨q1, q2⟩
  | [], _ :: _, h => h.elim
  | _ :: _, [], h => h.elim
theorem ent_ref : ∀ {d : List (List Nat × Int)} {es : List DictEntry}, EntR d es → es.any (·.refKey) = false
  | [], [], _ => rfl
  | (j, u) :: d, e :: es, h => by
    obtain ⟨⟨t, h1⟩, _, h3⟩ := h
    rw [List.any_cons, ent_ref h3, Bool.or_false]
    unfold DictEntry.refKey
    rw [h1]
  | [], _ :: _, h => h.elim
  | _ :: _, [], h => h.elim
structure GdAt (K : PySem.W.Frag) (w : World) (d : List (List Nat × Int)) (a : Addr) : Prop where
  ex : ∃ es n, KDict K w a es n ∧ EntR d es.toList
section
variable {X : Cx} {xC : Xs} {W : WX} {a b c e o : Expr} {es : List Expr} {f g h : Env → Store → Out PV} {l : Env → Store → Out (List PV)} {pos apos cpos : Pos}
theorem gd_look {K : PySem.W.Frag} {w : World} {d : List (List Nat × Int)} {a : Addr} {es : Array DictEntry} {n : Nat} (D : KDict K w a es n) (E : EntR d es.toList) (k : List Nat) :
    (∀ v, lookT k d = some v → ∃ t, PySem.W.nsIn K a (strV k) = some (some (.int v t))) ∧ (lookT k d = none → PySem.W.nsIn K a (strV k) = some none) := by
  obtain ⟨q1, q2⟩ := ent_find (k := k) E
  have hr := ent_ref E
  unfold PySem.W.nsIn
  rw [D.at_]
  dsimp only
  refine ⟨fun v hv => ?_, fun hv => ?_⟩
  · obtain ⟨e, t, h1, h2⟩ := q1 v hv
    rw [h1]
    exact ⟨t, by rw [← h2]⟩
  · rw [q2 hv, hr]
    rfl
theorem e_gdx {d : List (List Nat × Int)} {x : Str} {p : Pos} {ad : Addr} (hg : Gl X x) (hdb : (x == ("__debug__" : Str)) = false) (hm : X.mg x = some (.ref ad)) (D : GdAt X.K X.w d ad) (hb : PE X b (tE X.K xC W g)) (hs : PlainIx b) : PE X (.Subscript (.Name x p) b pos)
    (tE X.K xC W fun ρ S => (g ρ S).bind fun y S1 => match y with | .str k => lift S1 ((lookT k d).map fun (i : Int) => PV.int i) | _ => .bad) := by
  obtain ⟨es, n, D, E⟩ := D.ex
  refine (pe_ix (show IxR X (rIxD X.K X.w) from ix_kdict) (pe_glob hg hm (v := .ref ad) rfl hdb) hb hs).imp fun σ H Q ⟨ρ, S, m, G, q⟩ => ?_
  refine ⟨ρ, S, m, G, OP.imp (fun y S1 m1 H1 e1 s1 q1 v1 r1 => ?_) (OP.bind q)⟩
  cases r1 with
  | str k hk =>
    obtain ⟨i, hi, q2⟩ := q1.lift
    obtain ⟨v, hv, rfl⟩ := Option.map_eq_some_iff.mp hi
    obtain ⟨t, ht⟩ := (gd_look D E k).1 v hv
    exact ⟨ad, strV k, .int v, rfl, rfl, ⟨es, n, _, D.at_, D.lit, ht, ⟨t, rfl⟩⟩, q2 m1 H1 (Ext.refl s1) s1 _ (.int v)⟩
  | _ => exact q1.elim
theorem et_gdin {neg : Bool} {d : List (List Nat × Int)} {x : Str} {p : Pos} {ad : Addr} (hg : Gl X x) (hdb : (x == ("__debug__" : Str)) = false) (hm : X.mg x = some (.ref ad)) (D : GdAt X.K X.w d ad) (hb : PE X b (tE X.K xC W g)) : (PE X (.Compare b [if neg then .NotIn else .In] [.Name x p] pos) (tE X.K xC W fun ρ S => (g ρ S).bind fun y S1 => match y with | .str k => .ok (.bl (if neg then !(lookT k d).isSome else (lookT k d).isSome)) S1 | _ => .bad)) ∧ PT X (.Compare b [if neg then .NotIn else .In] [.Name x p] pos) (tT X.K xC W fun ρ S => (g ρ S).bind fun y S1 => match y with | .str k => .ok (.bl (if neg then !(lookT k d).isSome else (lookT k d).isSome)) S1 | _ => .bad) := by
  obtain ⟨es, n, D, E⟩ := D.ex
  have key : ∀ σ H Q, tE X.K xC W (fun ρ S => (g ρ S).bind fun y S1 => match y with | .str k => .ok (.bl (if neg then !(lookT k d).isSome else (lookT k d).isSome)) S1 | _ => .bad) σ H Q →
      tE X.K xC W g σ H fun x H1 => tC (.ref ad) σ H1 fun y H2 => ∃ (z : Str) (r : Option Value), x = .str z ∧ y = .ref ad ∧ PySem.W.nsIn X.K ad z = some r ∧ Q (.bl (if neg then !r.isSome else r.isSome)) H2 := by
    intro σ H Q ⟨ρ, S, m, G, q⟩
    refine ⟨ρ, S, m, G, OP.imp (fun y S1 m1 H1 e1 s1 q1 v1 r1 => ?_) (OP.bind q)⟩
    cases r1 with
    | str k hk =>
      have q1 : OP X.K xC W σ m1 S1 H1 (fun v S' m' H' => ∀ (x : V), VR X.K m' (List.length S') H' v x → Q x H') (Out.ok (PV.bl (if neg = true then !(lookT k d).isSome else (lookT k d).isSome)) S1) := q1
      cases hl : lookT k d with
      | none =>
        rw [hl] at q1
        exact ⟨strV k, none, rfl, rfl, (gd_look D E k).2 hl, q1 m1 H1 (Ext.refl s1) s1 _ (.bl _)⟩
      | some v =>
        rw [hl] at q1
        obtain ⟨t, ht⟩ := (gd_look D E k).1 v hl
        exact ⟨strV k, _, rfl, rfl, ht, q1 m1 H1 (Ext.refl s1) s1 _ (.bl _)⟩
    | _ => exact q1.elim
  cases neg with
  | false => exact ⟨(pe_cmpR (op_in_kd D) hb (pe_glob hg hm (v := .ref ad) rfl hdb) rfl).imp key, (pt_cmpR (op_in_kd D) hb (pe_glob hg hm (v := .ref ad) rfl hdb) rfl).imp fun σ H Q h => key _ _ _ (tT_tE h)⟩
  | true => exact ⟨(pe_cmpR (op_notIn_kd D) hb (pe_glob hg hm (v := .ref ad) rfl hdb) rfl).imp key, (pt_cmpR (op_notIn_kd D) hb (pe_glob hg hm (v := .ref ad) rfl hdb) rfl).imp fun σ H Q h => key _ _ _ (tT_tE h)⟩
/-! ### displays -/
/-- pairs, one behind another -/
def flatP : List (V × V) → List V
  | [] => []
  | (a, b) :: r => a :: b :: flatP r
structure PPr (X : Cx) (xC : Xs) (W : WX) (pos : Pos) (keys : List (Option Expr)) (values : List Expr) (l : Env → Store → Out (List PV)) : Prop where
  ex : ∃ trs, PPs X pos keys values trs ∧ ∀ (σ : L2.St) (H : Hp) (Q : List (V × V) → Hp → Prop), (∃ ρ S m, Good X.K ρ S m σ H ∧ OP X.K xC W σ m S H (fun us S' m' H' => ∀ ps, VRs X.K m' S'.length H' us (flatP ps) → Q ps H') (l ρ S)) → tPairs trs σ H Q
theorem ppr_nil : PPr X xC W pos [] [] (fun _ S => .ok [] S) := ⟨[], pps_nil, fun σ H Q ⟨ρ, S, m, G, q⟩ => q m H (Ext.refl G.st) G.st [] .nil⟩
theorem ppr_cons {k v : Expr} {ks : List (Option Expr)} {vs : List Expr} (hk : PE X k (tE X.K xC W f)) (hv : PE X v (tE X.K xC W g)) (hr : PPr X xC W pos ks vs l) : PPr X xC W pos (some k :: ks) (v :: vs) (consF f (consF g l)) := by
  obtain ⟨trs, h1, h2⟩ := hr.ex
  refine ⟨_ :: trs, pps_cons hk hv h1, fun σ H Q ⟨ρ, S, m, G, q⟩ => ?_⟩
  refine ⟨ρ, S, m, G, OP.imp (fun x S1 m1 H1 e1 s1 q1 v1 r1 => ?_) (OP.bind q)⟩
  have G1 := G.on e1 s1
  refine ⟨ρ, S1, m1, G1, OP.imp (fun y S2 m2 H2 e2 s2 q2 v2 r2 => ?_) (OP.bind (OP.bind q1))⟩
  have G2 := G1.on e2 s2
  refine h2 σ H2 _ ⟨ρ, S2, m2, G2, OP.imp (fun us S3 m3 H3 e3 s3 q3 ps rs => ?_) (OP.bind q2)⟩
  have rx := VR.on s2 e3 (VR.on s1 e2 r1)
  have ry := VR.on s2 e3 r2
  have q4 := q3 m3 H3 (Ext.refl s3) s3
  have q5 := q4 m3 H3 (Ext.refl s3) s3
  exact q5 ((v1, v2) :: ps) (.cons rx (.cons ry rs))
end
section
variable {K : PySem.W.Frag} {m : Mp} {n : Nat} {H : Hp}
theorem mergeD_ok : ∀ {us : List PV} {ps : List (V × V)} {acc r : List PV × List PV} {kvs0 : List (Key × V)}, VRs K m n H us (flatP ps) → mergeD us acc = some r → KeyR acc.1 kvs0 → VRs K m n H acc.2 (kvs0.map (·.2)) →
    ∃ kvs : List (Key × V), ps = kvs.map (fun kv => (kV kv.1, kv.2)) ∧ KeyR r.1 (mergeK kvs0 kvs) ∧ VRs K m n H r.2 ((mergeK kvs0 kvs).map (·.2))
  | [], ps, acc, r, kvs0, rs, h, kr, ra => by
    cases ps with
    | nil => cases h; exact ⟨[], rfl, kr, ra⟩
    | cons p ps => cases rs
  | [_], ps, acc, r, kvs0, rs, h, kr, ra => by cases h
  | k :: v :: us, ps, acc, r, kvs0, rs, h, kr, ra => by
    cases ps with
    | nil => cases rs
    | cons p ps =>
      obtain ⟨a, b⟩ := p
      cases rs with
      | cons r1 rs =>
        cases rs with
        | cons r2 rs =>
          have h : (if isKey k then mergeD us (putD k v acc.1 acc.2) else none) = some r := h
          split at h
          · rename_i hk
            obtain ⟨ka, hka⟩ := keyV_of hk
            have := kV_of hka r1
            subst this
            obtain ⟨p1, p2⟩ := put_ok hka (okS_of r1) r2 kr ra
            obtain ⟨kvs, e1, e2, e3⟩ := mergeD_ok rs h p1 p2
            exact ⟨(ka, b) :: kvs, by rw [e1]; rfl, e2, e3⟩
          · cases h
theorem flatP_len : ∀ ps : List (V × V), (flatP ps).length = 2 * ps.length
  | [] => rfl
  | (a, b) :: r => by show (flatP r).length + 1 + 1 = 2 * (r.length + 1); rw [flatP_len r]; omega
end
section
variable {X : Cx} {xC : Xs} {W : WX} {l : Env → Store → Out (List PV)} {pos : Pos}
def dlitF (l : Env → Store → Out (List PV)) : Env → Store → Out PV := fun ρ S => (l ρ (S ++ [.dic [] []])).bind fun us S1 => if S1[S.length]? = some (.dic [] []) then (match mergeD us ([], []) with
    | some (ks, vs) => if us.length ≤ 30 then .ok (.ref S.length) (S1.set S.length (.dic ks vs)) else .bad
    | none => .bad) else .bad
theorem e_dlit {keys : List (Option Expr)} {values : List Expr} (h : PPr X xC W pos keys values l) (hall : keys.all (·.isSome) = true) (hl : keys.length = values.length) (h0 : keys ≠ []) (h15 : keys.length ≤ 15) : PE X (.Dict keys values pos) (tE X.K xC W (dlitF l)) := by
  obtain ⟨trs, h1, h2⟩ := h.ex
  refine (pe_disp h1 hall hl h0 h15).imp fun σ H Q ⟨ρ, S, m, G, q⟩ => ?_
  intro p hp
  have si : StoreR X.K (S ++ [Cell.dic [] []]) (ext1 m S.length p) (upd H p (.dK [])) := G.st.placeC hp trivial ⟨[], upd_same, trivial, .nil⟩
  have ll : (S ++ [Cell.dic [] []]).length = S.length + 1 := by simp
  have e0 : Ext m S.length H (ext1 m S.length p) (S ++ [Cell.dic [] []]).length (upd H p (.dK [])) := by rw [ll]; exact Ext.place G.st hp
  refine h2 σ _ _ ⟨ρ, _, _, G.on e0 si, OP.imp (fun us S1 m1 H1 e1 s1 q1 ps rs => ?_) (OP.bind (OP.ext e0 q))⟩
  split at q1
  · rename_i hS
    have hk : S.length < S1.length := (List.getElem?_eq_some_iff.mp hS).1
    have ea : m1.at_ S.length = p := by
      rw [e1.emb S.length (by rw [ll]; omega)]
      exact ext1_same
    obtain ⟨kvs0, c1, c2, c3⟩ := s1.cell S.length _ hS
    rw [ea] at c1
    have : kvs0 = [] := by cases kvs0 with | nil => rfl | cons _ _ => exact c2.elim
    subst this
    split at q1
    · rename_i ks vs hm
      split at q1
      · rename_i h30
        obtain ⟨kvs, d1, d2, d3⟩ := mergeD_ok (kvs0 := []) rs hm trivial .nil
        have hlen : kvs.length ≤ 15 := by
          have := rs.length
          rw [flatP_len, d1, List.length_map] at this
          omega
        refine ⟨c1, kvs, d1, hlen, ?_⟩
        have ex : Ext m1 S1.length H1 m1 (S1.set S.length (Cell.dic ks vs)).length (upd H1 (m1.at_ S.length) (.dK (mergeK [] kvs))) := by
          rw [List.length_set]
          exact Ext.write s1 hk
        have sw : StoreR X.K (S1.set S.length (Cell.dic ks vs)) m1 (upd H1 (m1.at_ S.length) (.dK (mergeK [] kvs))) := s1.writeC hk trivial ⟨_, upd_same, d2, VRs.wr s1 (s1.inZ _ hk) d3⟩
        have := q1 m1 _ ex sw (.ref (m1.at_ S.length)) (.ref (by rw [List.length_set]; exact hk))
        rw [ea] at this
        exact this
      · exact q1.elim
    · exact q1.elim
  · exact q1.elim
theorem e_dnew : PE X (.Dict [] [] pos) (tE X.K xC W (dlitF fun _ S => .ok [] S)) := by
  refine pe_dnewK.imp fun σ H Q ⟨ρ, S, m, G, q⟩ => ?_
  intro p hp
  have si : StoreR X.K (S ++ [Cell.dic [] []]) (ext1 m S.length p) (upd H p (.dK [])) := G.st.placeC hp trivial ⟨[], upd_same, trivial, .nil⟩
  have ll : (S ++ [Cell.dic [] []]).length = S.length + 1 := by simp
  have e0 : Ext m S.length H (ext1 m S.length p) (S ++ [Cell.dic [] []]).length (upd H p (.dK [])) := by rw [ll]; exact Ext.place G.st hp
  have hS : (S ++ [Cell.dic [] []])[S.length]? = some (Cell.dic [] []) := by rw [List.getElem?_append_right (Nat.le_refl _), Nat.sub_self]; rfl
  have e2 : (S ++ [Cell.dic [] []]).set S.length (Cell.dic [] []) = S ++ [Cell.dic [] []] := by
    rw [List.set_append_right _ _ (Nat.le_refl _), Nat.sub_self]
    rfl
  have hv : dlitF (fun _ S => Out.ok [] S) ρ S = .ok (.ref S.length) (S ++ [Cell.dic [] []]) := by
    unfold dlitF
    rw [Out.bind_ok, if_pos hS]
    show (if ([] : List PV).length ≤ 30 then Out.ok (PV.ref S.length) ((S ++ [Cell.dic [] []]).set S.length (Cell.dic [] [])) else Out.bad) = _
    rw [if_pos (by decide), e2]
  rw [hv] at q
  have := q (ext1 m S.length p) _ e0 si (.ref ((ext1 m S.length p).at_ S.length)) (.ref (by rw [ll]; omega))
  rw [ext1_same] at this
  exact this
end
end MK

set_option linter.all false
set_option autoImplicit false
set_option Elab.async false
set_option maxRecDepth 100000
set_option maxHeartbeats 4000000
/-! MkLc: walks, targets, comprehensions. -/
namespace MK
open PySem PySem.Spec PyProof.Rows L2

/-- an iterator yields just these items, as the state stands -/
structure Walks (K : PySem.W.Frag) (J : L2.It) (w : Walk) (S : Store) (m : Mp) (H : Hp) : Prop where
  go : ∀ i x, w.1[i]? = some x → J.go i H ∧ ∀ v H', J.yld i H v H' → Ext m S.length H m S.length H' ∧ StoreR K S m H' ∧ VR K m S.length H' x v
  stop : ∀ i, w.1.length ≤ i → J.stop i H
def WalksAll (K : PySem.W.Frag) (J : L2.It) (w : Walk) (S : Store) (m : Mp) (H : Hp) : Prop :=
  ∀ S' m' H', Ext m S.length H m' S'.length H' → StoreR K S' m' H' → keptOf w S' = true → Walks K J w S' m' H'
def tIt (K : PySem.W.Frag) (xC : Xs) (W : WX) (f : Env → Store → Out Walk) : TI := fun σ H R => ∃ ρ S m, Good K ρ S m σ H ∧
  OP K xC W σ m S H (fun w S' m' H' => ∀ J, WalksAll K J w S' m' H' → keptOf w S' = true → R J H') (f ρ S)
theorem _root_.L2.PI.imp {X : Cx} {tg e : Expr} {t t' : TI} (h : PI X tg e t) (i : ∀ σ H R, t' σ H R → t σ H R) : PI X tg e t' := ⟨fun pins s σ H R I q => h.run pins s σ H R I (i σ H R q)⟩

section
variable {X : Cx} {xC : Xs} {W : WX} {a b c e tg : Expr} {f g h : Env → Store → Out PV} {pos apos cpos : Pos} {es : List Expr} {l : Env → Store → Out (List PV)}

theorem walks_list {K : PySem.W.Frag} {S : Store} {m : Mp} {H : Hp} {a : Addr} {xs : List PV} {at_ : Option Nat}
    (h : ∀ S' m' H', Ext m S.length H m' S'.length H' → StoreR K S' m' H' → keptOf (xs, at_) S' = true → ∃ vs, SqL K H' a vs ∧ VRs K m' S'.length H' xs vs) : WalksAll K (Itl K a) (xs, at_) S m H := by
  intro S' m' H' ex st' kp
  obtain ⟨vs, hq, r⟩ := h S' m' H' ex st' kp
  refine ⟨fun i x hx => ?_, fun i hi => ⟨vs, hq, by rw [← r.length]; exact hi⟩⟩
  obtain ⟨v, hv, rv⟩ := r.get hx
  refine ⟨⟨vs, v, hq, hv⟩, fun v' H2 hy => ?_⟩
  obtain ⟨rfl, hy⟩ := hy
  have := hy vs hq
  rw [hv] at this
  cases this
  exact ⟨Ext.refl st', st', rv⟩
theorem walks_tup {K : PySem.W.Frag} {S : Store} {m : Mp} {H : Hp} {a : Addr} {xs : List PV} {vs : List V} (st : StoreR K S m H) (hq : SqT K H a vs) (r : VRs K m S.length H xs vs) : WalksAll K (Itt K a) (xs, none) S m H := by
  intro S' m' H' ex st' kp
  have hq' := SqT.on st ex hq
  have r' := VRs.on st ex r
  refine ⟨fun i x hx => ?_, fun i hi => ⟨vs, hq', by rw [← r.length]; exact hi⟩⟩
  obtain ⟨v, hv, rv⟩ := r'.get hx
  refine ⟨⟨vs, v, hq', hv⟩, fun v' H2 hy => ?_⟩
  obtain ⟨rfl, hy⟩ := hy
  have := hy vs hq'
  rw [hv] at this
  cases this
  exact ⟨Ext.refl st', st', rv⟩
theorem walks_str {K : PySem.W.Frag} {S : Store} {m : Mp} {H : Hp} {s : List Nat} (hs : okS s) : WalksAll K (Its (strV s)) (s.map fun c => .str [c], none) S m H := by
  intro S' m' H' ex st' kp
  have hz : (strV s).cps.size = s.length := strV_length s
  refine ⟨fun i x hx => ?_, fun i hi => ?_⟩
  · rw [List.getElem?_map] at hx
    obtain ⟨c, hc, rfl⟩ := Option.map_eq_some_iff.mp hx
    have hi : i < s.length := (List.getElem?_eq_some_iff.mp hc).1
    refine ⟨by show i < (strV s).cps.size; rw [hz]; exact hi, fun v' H2 hy => ?_⟩
    obtain ⟨rfl, c', hc', rfl⟩ := hy
    have e : (strV s).cps[i]? = s[i]? := by show s.toArray[i]? = _; simp
    rw [e, hc] at hc'
    cases hc'
    exact ⟨Ext.refl st', st', .str [c] (hs.one (List.mem_of_getElem? hc))⟩
  · show (strV s).cps.size ≤ i
    rw [hz]
    rw [List.length_map] at hi
    exact hi
theorem walks_rng {K : PySem.W.Frag} {S : Store} {m : Mp} {H : Hp} (lo : Int) (n : Nat) : WalksAll K (Itr lo n) (rngL lo n, none) S m H := by
  intro S' m' H' ex st' kp
  have hl : (rngL lo n).length = n := by unfold rngL; simp
  refine ⟨fun i x hx => ?_, fun i hi => ?_⟩
  · have hi : i < n := by
      have := (List.getElem?_eq_some_iff.mp hx).1
      rw [hl] at this; exact this
    refine ⟨hi, fun v' H2 hy => ?_⟩
    obtain ⟨rfl, rfl⟩ := hy
    unfold rngL at hx
    rw [List.getElem?_map, List.getElem?_range hi] at hx
    cases hx
    exact ⟨Ext.refl st', st', .int _⟩
  · show n ≤ i
    rw [hl] at hi
    exact hi
theorem it_list {pins : List (Addr × Obj)} {σ : L2.St} {H1 : Hp} {s1 : Shared} {R : L2.It → Hp → Prop} {a : Addr} {xs : List V} (I1 : Inv X pins σ H1 s1) (hq : SqL X.K H1 a xs) (q : R (Itl X.K a) H1) :
    wpAny (model X.prog X.w) X.A (pyIter (.ref a)) (PIE X pins σ tg R) X.xe s1 := by
  obtain ⟨its, rv, p, hz⟩ := I1.list hq
  refine wpAny_pyIter_list p.isList ?_
  refine ⟨s1.heap.objs.size, [s1.heap.objs.size], _, _, H1, rfl, I1.kept (t' := s1.toks) fun b o e => Heap.get?_push_of_some _ e, turn_list a _, ⟨_, Heap.get?_push_size _ rfl, rfl, rfl⟩, fun b hb => ?_, q⟩
  have e : b = s1.heap.objs.size := by simpa using hb
  subst e
  exact I1.fpOk (Nat.le_refl _) (I1.hok.fresh (Nat.le_refl _))
theorem it_tup {pins : List (Addr × Obj)} {σ : L2.St} {H1 : Hp} {s1 : Shared} {R : L2.It → Hp → Prop} {a : Addr} {xs : List V} (I1 : Inv X pins σ H1 s1) (hq : SqT X.K H1 a xs) (q : R (Itt X.K a) H1) :
    wpAny (model X.prog X.w) X.A (pyIter (.ref a)) (PIE X pins σ tg R) X.xe s1 := by
  obtain ⟨its, rv, p, hz⟩ := I1.tuple hq
  refine wpAny_pyIter_tuple (show s1.heap.IsTuple a its.toArray from p) ?_
  refine ⟨s1.heap.objs.size, [s1.heap.objs.size], _, _, H1, rfl, I1.kept (t' := s1.toks) fun b o e => Heap.get?_push_of_some _ e, turn_tuple a _, ⟨_, Heap.get?_push_size _ rfl, rfl, rfl⟩, fun b hb => ?_, q⟩
  have e : b = s1.heap.objs.size := by simpa using hb
  subst e
  exact I1.fpOk (Nat.le_refl _) (I1.hok.fresh (Nat.le_refl _))
theorem it_str {pins : List (Addr × Obj)} {σ : L2.St} {H1 : Hp} {s1 : Shared} {R : L2.It → Hp → Prop} {x : Str} {t : Tok} (I1 : Inv X pins σ H1 s1) (q : R (Its x) H1) :
    wpAny (model X.prog X.w) X.A (pyIter (.str x t)) (PIE X pins σ tg R) X.xe s1 := by
  cases ha : x.cps.all (· < 128)
  · exact wpAny_pyIter_wide ha (pi_one (tk := s1.toks) I1 _ (turn_str _ x t "str_iterator" (.inr rfl)) ⟨_, Heap.get?_push_size _ rfl, rfl, rfl⟩ q)
  · exact wpAny_pyIter_ascii ha (pi_one (tk := s1.toks) I1 _ (turn_str _ x t "str_ascii_iterator" (.inl rfl)) ⟨_, Heap.get?_push_size _ rfl, rfl, rfl⟩ q)
theorem kept_at {S : Store} {n : Nat} {xs : List PV} (h : keptOf (xs, some n) S = true) : S[n]? = some (.lst xs) := of_decide_eq_true h
/-- what is walked: a list, a tuple, a text -/
theorem i_seq (he : PE X e (tE X.K xC W f)) : PI X tg e (tIt X.K xC W fun ρ S => (f ρ S).bind fun v S1 => lift S1 (walkOf S1 v)) := by
  refine ⟨fun pins s σ H R I h => ?_⟩
  obtain ⟨ρ, S, m, G, q⟩ := h
  refine thn (he.run pins s σ H (fun x H1 => ∃ v S1 m1, StoreR X.K S1 m1 H1 ∧ VR X.K m1 S1.length H1 v x ∧ OP X.K xC W σ m1 S1 H1 (fun w S' m' H' => ∀ J, WalksAll X.K J w S' m' H' → keptOf w S' = true → R J H') (lift S1 (walkOf S1 v))) I ⟨ρ, S, m, G, OP.imp (fun v S1 m1 H1 e1 s1 q1 x r => ⟨v, S1, m1, s1, r, q1⟩) (OP.bind q)⟩) fun u s1 ⟨x, H1, I1, r1, hx⟩ => ?_
  obtain ⟨v, S1, m1, st, r, q1⟩ := hx
  obtain ⟨w, hw, q2⟩ := q1.lift
  have fin := q2 m1 H1 (Ext.refl st) st
  cases r with
  | str z hz =>
    obtain ⟨t, rfl⟩ := r1
    cases hw
    exact it_str I1 (fin _ (walks_str hz) rfl)
  | tup ht rs =>
    cases r1
    cases hw
    exact it_tup I1 ht (fin _ (walks_tup st ht rs) rfl)
  | lst hl rs =>
    cases r1
    cases hw
    exact it_list I1 hl.sq (fin _ (walks_list fun S' m' H' ex st' kp => ⟨_, (LstR.on ex hl).sq, VRs.on st ex rs⟩) rfl)
  | @ref k hk =>
    cases r1
    have hw : (match S1[k]? with | some (.lst xs) => some (xs, some k) | _ => none) = some w := hw
    split at hw
    · rename_i xs hx
      cases hw
      obtain ⟨vs, e, rs⟩ := st.cell k _ hx
      refine it_list I1 (.inl (.inl e)) (fin _ (walks_list fun S' m' H' ex st' kp => ?_) (decide_eq_true hx))
      obtain ⟨us, e', rs'⟩ := st'.cell k _ (kept_at kp)
      rw [ex.emb k hk] at e'
      exact ⟨us, .inl (.inl e'), rs'⟩
    · cases hw
  | non => cases hw
  | bl _ => cases hw
  | int _ => cases hw
  | ty _ => cases hw
theorem BIG_62 : BIG < 2 ^ 62 := by decide
theorem i_rng1 {p : Pos} {x : Str} (hx : x = ("range" : Str)) (hg : Gl X x) (hm : X.mg x = none) (ha : PA X [a] (tA X.K xC W l)) (hs : starEach [a] X.env = [(false, eval a X.env)])
    (hl : ∀ ρ S vs S', l ρ S = .ok vs S' → vs.length = 1) :
    PI X tg (.Call (.Name x p) [a] [] pos) (tIt X.K xC W fun ρ S => (l ρ S).bind fun vs S1 => lift S1 (rngOf vs)) := by
  subst hx
  refine (pi_range1 hg hm ha hs).imp fun σ H R ⟨ρ, S, m, G, q⟩ => ?_
  have hl' := hl ρ S
  dsimp only at q
  refine ⟨ρ, S, m, G, ?_⟩
  generalize l ρ S = o at q hl'
  cases o with
  | ok vs S1 =>
    intro m1 H1 e1 s1 xs r
    have hn := hl' vs S1 rfl
    obtain ⟨w, hw, q2⟩ := OP.lift (OP.ext e1 q)
    match vs, hn, r, hw with
    | [v], _, .cons rv .nil, hw =>
      cases rv with
      | int j =>
        have hw : (if -BIG ≤ j ∧ j < BIG then some (rngL 0 j.toNat, none) else none) = some w := hw
        split at hw
        · rename_i hj
          cases hw
          have := BIG_62
          refine ⟨j, rfl, by omega, by omega, q2 m1 H1 (Ext.refl s1) s1 _ (walks_rng 0 _) rfl⟩
        · cases hw
      | _ => cases hw
  | exc c as S1 => exact q
  | bad => exact q
theorem i_rng2 {p : Pos} {x : Str} (hx : x = ("range" : Str)) (hg : Gl X x) (hm : X.mg x = none) (ha : PA X [a, b] (tA X.K xC W l)) (hs : starEach [a, b] X.env = [(false, eval a X.env), (false, eval b X.env)]) (hs2 : starEach [b] X.env = [(false, eval b X.env)])
    (hl : ∀ ρ S vs S', l ρ S = .ok vs S' → vs.length = 2) :
    PI X tg (.Call (.Name x p) [a, b] [] pos) (tIt X.K xC W fun ρ S => (l ρ S).bind fun vs S1 => lift S1 (rngOf vs)) := by
  subst hx
  refine (pi_range2 hg hm ha hs hs2).imp fun σ H R ⟨ρ, S, m, G, q⟩ => ?_
  have hl' := hl ρ S
  dsimp only at q
  refine ⟨ρ, S, m, G, ?_⟩
  generalize l ρ S = o at q hl'
  cases o with
  | ok vs S1 =>
    intro m1 H1 e1 s1 xs r
    have hn := hl' vs S1 rfl
    obtain ⟨w, hw, q2⟩ := OP.lift (OP.ext e1 q)
    match vs, hn, r, hw with
    | [v, u], _, .cons rv (.cons ru .nil), hw =>
      cases rv with
      | int i =>
        cases ru with
        | int j =>
          have hw : (if -BIG ≤ i ∧ i < BIG ∧ -BIG ≤ j ∧ j < BIG then some (rngL i (j - i).toNat, none) else none) = some w := hw
          split at hw
          · rename_i hj
            cases hw
            have := BIG_62
            refine ⟨i, j, rfl, ⟨by omega, by omega, by omega, by omega⟩, q2 m1 H1 (Ext.refl s1) s1 _ (walks_rng i _) rfl⟩
          · cases hw
        | _ => cases hw
      | _ => cases hw
  | exc c as S1 => exact q
  | bad => exact q
end

/-! ### targets -/
mutual
def slots : TG → List Nat
  | .nm i => [i]
  | .tp ts => slotsL ts
def slotsL : List TG → List Nat
  | [] => []
  | t :: ts => slots t ++ slotsL ts
end
def gT (K : PySem.W.Frag) (t : TG) : L2.TG := fun v σ H Q => ∃ ρ S m pv ρ', Good K ρ S m σ H ∧ VR K m S.length H pv v ∧ asg t pv ρ = some ρ' ∧
  ∀ σ', Good K ρ' S m σ' H → (∀ vs, (∀ i ∈ slots t, i ∈ vs) → L2.wipe σ' vs = L2.wipe σ vs) → Q σ' H
def gTs (K : PySem.W.Frag) (ts : List TG) : L2.TGs := fun v σ H Q => ∃ ρ S m pv ρ', Good K ρ S m σ H ∧ VRs K m S.length H pv v ∧ asgs ts pv ρ = some ρ' ∧
  ∀ σ', Good K ρ' S m σ' H → (∀ vs, (∀ i ∈ slotsL ts, i ∈ vs) → L2.wipe σ' vs = L2.wipe σ vs) → Q σ' H
theorem _root_.L2.PG.imp {X : Cx} {e : Expr} {t t' : L2.TG} (h : PG X e t) (i : ∀ v σ H Q, t' v σ H Q → t v σ H Q) : PG X e t' := ⟨fun pins s σ H v u Q I r q => h.run pins s σ H v u Q I r (i v σ H Q q)⟩
theorem _root_.L2.PGs.imp {X : Cx} {e : List Expr} {t t' : L2.TGs} (h : PGs X e t) (i : ∀ v σ H Q, t' v σ H Q → t v σ H Q) : PGs X e t' := ⟨fun pins s σ H v u Q I r q => h.run pins s σ H v u Q I r (i v σ H Q q)⟩
theorem wipe_set_in {σ : L2.St} {i : Nat} {x : Option V} : ∀ {vs : List Nat}, i ∈ vs → L2.wipe (σ.set i x) vs = L2.wipe σ vs
  | v :: vs, h => by
    show (L2.wipe (σ.set i x) vs).set v none = (L2.wipe σ vs).set v none
    by_cases hi : i ∈ vs
    · rw [wipe_set_in hi]
    · have e : i = v := by
        rcases List.mem_cons.mp h with e | e
        · exact e
        · exact absurd e hi
      subst e
      have : ∀ (us : List Nat), i ∉ us → L2.wipe (σ.set i x) us = (L2.wipe σ us).set i x := by
        intro us
        induction us with
        | nil => intro _; rfl
        | cons u us ih =>
          intro hu
          have hu' : i ≠ u ∧ i ∉ us := ⟨fun e => hu (by rw [e]; exact List.mem_cons_self), fun q => hu (List.mem_cons_of_mem _ q)⟩
          show (L2.wipe (σ.set i x) us).set u none = ((L2.wipe σ us).set u none).set i x
          rw [ih hu'.2, List.set_comm _ _ hu'.1]
      rw [this vs hi, List.set_set]
theorem EnvR.set {K : PySem.W.Frag} {ρ : Env} {m : Mp} {n : Nat} {H : Hp} {σ : L2.St} {i : Nat} {v : PV} {x : V} (e : EnvR K ρ m n H σ) (r : VR K m n H v x) (hi : i < ρ.length) : EnvR K (ρ.set i (some v)) m n H (σ.set i (some x)) := by
  refine ⟨by rw [List.length_set, List.length_set]; exact e.len, fun j u h => ?_⟩
  by_cases q : j = i
  · subst q
    rw [List.getElem?_set_self hi] at h
    cases h
    exact ⟨x, List.getElem?_set_self (by rw [← e.len]; exact hi), r⟩
  · rw [List.getElem?_set_ne (Ne.symm q)] at h
    obtain ⟨y, h1, h2⟩ := e.get j u h
    exact ⟨y, by rw [List.getElem?_set_ne (Ne.symm q)]; exact h1, h2⟩
theorem EnvR.wipe {K : PySem.W.Frag} {ρ : Env} {m : Mp} {n : Nat} {H : Hp} {σ : L2.St} (e : EnvR K ρ m n H σ) : ∀ vs : List Nat, EnvR K (MK.wipe ρ vs) m n H (L2.wipe σ vs)
  | [] => e
  | v :: vs => by
    have ih := EnvR.wipe e vs
    refine ⟨by show ((MK.wipe ρ vs).set v none).length = ((L2.wipe σ vs).set v none).length; rw [List.length_set, List.length_set]; exact ih.len, fun j u h => ?_⟩
    have h : ((MK.wipe ρ vs).set v none)[j]? = some (some u) := h
    by_cases q : j = v
    · subst q
      by_cases hl : j < (MK.wipe ρ vs).length
      · rw [List.getElem?_set_self hl] at h; cases h
      · rw [List.getElem?_eq_none (by rw [List.length_set]; omega)] at h; cases h
    · rw [List.getElem?_set_ne (Ne.symm q)] at h
      obtain ⟨y, h1, h2⟩ := ih.get j u h
      exact ⟨y, by show ((L2.wipe σ vs).set v none)[j]? = _; rw [List.getElem?_set_ne (Ne.symm q)]; exact h1, h2⟩
section
variable {X : Cx} {pos : Pos}
theorem g_name {i : Nat} {x : Str} (hN : X.N.Nodup) (hi : X.N[i]? = some x) (hx : Loc X.env.scope x) (hf : X.fn x = true ∨ X.env.scope.names.lookup x = some .local) : PG X (.Name x pos) (gT X.K (.nm i)) := by
  refine (pg_name hN hi hx hf).imp fun v σ H Q ⟨ρ, S, m, pv, ρ', G, r, e, q⟩ => ?_
  have e : (if i < ρ.length then some (ρ.set i (some pv)) else none) = some ρ' := e
  split at e
  · rename_i hl
    cases e
    exact q _ ⟨G.env.set r hl, G.st⟩ fun vs hv => wipe_set_in (hv i (List.mem_singleton.mpr rfl))
  · cases e
theorem g_nil : PGs X [] (gTs X.K []) := by
  refine pgs_nil.imp fun v σ H Q ⟨ρ, S, m, pv, ρ', G, r, e, q⟩ => ?_
  cases r with
  | nil =>
    cases e
    exact ⟨rfl, q _ G fun vs _ => rfl⟩
  | cons _ _ => cases e
theorem g_cons {e : Expr} {es : List Expr} {t : TG} {ts : List TG} (h1 : PG X e (gT X.K t)) (h2 : PGs X es (gTs X.K ts)) (hs : (assignEach (e :: es) X.env).map (·.2) = assign e X.env :: (assignEach es X.env).map (·.2)) : PGs X (e :: es) (gTs X.K (t :: ts)) := by
  refine (pgs_cons h1 h2 hs).imp fun v σ H Q ⟨ρ, S, m, pv, ρ', G, r, ea, q⟩ => ?_
  cases r with
  | nil => cases ea
  | @cons p x ps xs rp rs =>
    obtain ⟨ρ1, ea1, ea2⟩ := Option.bind_eq_some_iff.mp (show (asg t p ρ).bind (fun ρ' => asgs ts ps ρ') = some ρ' from ea)
    refine ⟨x, xs, rfl, ρ, S, m, p, ρ1, G, rp, ea1, fun σ1 G1 w1 => ?_⟩
    refine ⟨ρ1, S, m, ps, ρ', G1, rs, ea2, fun σ2 G2 w2 => q σ2 G2 fun vs hv => ?_⟩
    rw [w2 vs fun i hi => hv i (List.mem_append_right _ hi), w1 vs fun i hi => hv i (List.mem_append_left _ hi)]
theorem asgs_len : ∀ {ts : List TG} {vs : List PV} {ρ ρ' : Env}, asgs ts vs ρ = some ρ' → vs.length = ts.length
  | [], [], _, _, _ => rfl
  | [], _ :: _, _, _, h => by cases h
  | _ :: _, [], _, _, h => by cases h
  | t :: ts, v :: vs, ρ, ρ', h => by
    obtain ⟨ρ1, _, h2⟩ := Option.bind_eq_some_iff.mp (show (asg t v ρ).bind (fun ρ' => asgs ts vs ρ') = some ρ' from h)
    rw [List.length_cons, List.length_cons, asgs_len h2]
theorem g_tup {es : List Expr} {k : Nat} {ts : List TG} (hc : X.calm = true) (h : PGs X es (gTs X.K ts)) (hn : (assignEach es X.env).length = ts.length) (hst : (assignEach es X.env).findIdx? (·.1) = none) : PG X (.Tuple es k pos) (gT X.K (.tp ts)) := by
  refine ⟨fun pins s σ H v u Q I rv ⟨ρ, S, m, pv, ρ', G, r, e, q⟩ => ?_⟩
  cases r with
  | tup ht rs =>
    have e : asgs ts _ ρ = some ρ' := e
    exact (pg_tup hc h hn hst).run pins s σ H _ u Q I rv ⟨_, _, rfl, ht, by rw [← rs.length]; exact asgs_len e, ρ, S, m, _, ρ', G, rs, e, q⟩
  | lst ht rs =>
    have e : asgs ts _ ρ = some ρ' := e
    exact (pg_lst hc h hn hst).run pins s σ H _ u Q I rv ⟨_, _, rfl, ht.sq, by rw [← rs.length]; exact asgs_len e, ρ, S, m, _, ρ', G, rs, e, q⟩
  | _ => cases e
end

/-! ### comprehensions -/
def tCo (K : PySem.W.Frag) (xC : Xs) (W : WX) (f : Env → Store → Out Bool) : TT := fun σ H Q => ∃ ρ S m, Good K ρ S m σ H ∧ OP K xC W σ m S H (fun b S' m' H' => Q b H') (f ρ S)
theorem _root_.L2.PTs.imp {X : Cx} {e : List Expr} {t t' : TT} (h : PTs X e t) (i : ∀ σ H Q, t' σ H Q → t σ H Q) : PTs X e t' := ⟨fun pins s σ H Q I q => h.run pins s σ H Q I (i σ H Q q)⟩
section
variable {X : Cx} {xC : Xs} {W : WX} {a : Expr} {f : Env → Store → Out PV}
theorem co_nil : PTs X [] (tCo X.K xC W fun _ S => .ok true S) := by
  refine pts_nil.imp fun σ H Q ⟨ρ, S, m, G, q⟩ => ?_
  exact q m H (Ext.refl G.st) G.st
theorem co_one (h : PT X a (tT X.K xC W f)) : PTs X [a] (tCo X.K xC W fun ρ S => (f ρ S).bind fun v S1 => match v with | .bl b => .ok b S1 | _ => .bad) := by
  refine (pts_one h).imp fun σ H Q ⟨ρ, S, m, G, q⟩ => ?_
  refine ⟨ρ, S, m, G, OP.imp (fun v S1 m1 H1 e1 s1 q1 => ?_) (OP.bind q)⟩
  cases v with
  | bl b => exact ⟨b, rfl, q1 m1 H1 (Ext.refl s1) s1⟩
  | _ => exact q1.elim
end
theorem compL_ok {step : PV → Store → Out (Option PV)} : ∀ {acc xs : List PV} {S : Store}, compL step acc xs S ≠ .bad → ∃ ys S', compL step acc xs S = .ok ys S'
  | acc, [], S, _ => ⟨acc, S, rfl⟩
  | acc, x :: xs, S, h => by
    unfold compL at h ⊢
    cases hs : step x S with
    | ok r S' =>
      rw [hs] at h
      cases r with
      | some y => exact compL_ok h
      | none => exact compL_ok h
    | exc c as S' => rw [hs] at h; exact absurd rfl h
    | bad => rw [hs] at h; exact absurd rfl h
theorem compL_exc {step : PV → Store → Out (Option PV)} {c : Nat} {as : List PV} {S' : Store} : ∀ {acc xs : List PV} {S : Store}, compL step acc xs S ≠ .exc c as S'
  | acc, [], S => by intro h; cases h
  | acc, x :: xs, S => by
    unfold compL
    cases hs : step x S with
    | ok r S' => cases r <;> exact compL_exc
    | exc c as S' => intro h; cases h
    | bad => intro h; cases h
abbrev W0 : WX := fun _ _ _ _ => False
/-- [elt for tg in iter if cond] -/
def lcF (own : Bool) (vs : List Nat) (t : TG) (fi : Env → Store → Out Walk) (fc : Env → Store → Out Bool) (fe : Env → Store → Out PV) : Env → Store → Out PV := fun ρ S => (fi ρ S).bind fun w S1 =>
    (compL (compStep w (asg t) fc fe (wipe ρ vs)) [] w.1 S1).bind fun ys S' =>
      if w.1.length ≤ SZ then (if own then .ok (.ref S'.length) (S' ++ [.lst ys]) else .ok (.lst ys) S') else .bad
/-- a list in the making becomes a place -/
def ext2 (m : Mp) (n : Nat) (D : Addr) : Mp := ⟨fun k => if k = n then D else m.at_ k, m.Z⟩
theorem VRs.up {K : PySem.W.Frag} {S : Store} {m : Mp} {H : Hp} {D : Addr} {x : List PV} {v : List V} (r : VRs K m S.length H x v) : VRs K (ext2 m S.length D) (S.length + 1) H x v := VRs.re (m := m) (m' := ext2 m S.length D) (Nat.le_succ _) (fun k hk => if_neg (Nat.ne_of_lt hk)) (fun _ h => h) r
theorem StoreR.placedC {K : PySem.W.Frag} {S : Store} {m : Mp} {H : Hp} {D : Addr} {c : Cell} (st : StoreR K S m H) (z : m.Z D) (no : ∀ k, k < S.length → m.at_ k ≠ D) (r : CellR K (ext2 m S.length D) (S.length + 1) H D c) :
    StoreR K (S ++ [c]) (ext2 m S.length D) H := by
  have hl : (S ++ [c]).length = S.length + 1 := by simp
  have up : ∀ {x : List PV} {v : List V}, VRs K m S.length H x v → VRs K (ext2 m S.length D) (S.length + 1) H x v := fun r => VRs.re (m := m) (m' := ext2 m S.length D) (Nat.le_succ _) (fun k hk => if_neg (Nat.ne_of_lt hk)) (fun _ h => h) r
  refine ⟨fun j k hj hk e => ?_, fun k c h => ?_, fun k hk => ?_, st.kind⟩
  · rw [hl] at hj hk
    have e : (if j = S.length then D else m.at_ j) = (if k = S.length then D else m.at_ k) := e
    by_cases q1 : j = S.length <;> by_cases q2 : k = S.length
    · rw [q1, q2]
    · rw [if_pos q1, if_neg q2] at e
      exact absurd e.symm (no k (by omega))
    · rw [if_pos q2, if_neg q1] at e
      exact absurd e (no j (by omega))
    · rw [if_neg q1, if_neg q2] at e
      exact st.inj j k (by omega) (by omega) e
  · rename_i c'
    rw [hl]
    by_cases q : k = S.length
    · subst q
      rw [List.getElem?_append_right (Nat.le_refl _), Nat.sub_self] at h
      have h : c' = c := by simpa [eq_comm] using h
      subst h
      show CellR K _ _ H (if S.length = S.length then D else m.at_ S.length) c'
      rw [if_pos rfl]
      exact r
    · have hk : k < S.length := by
        have := (List.getElem?_eq_some_iff.mp h).1
        rw [hl] at this; omega
      rw [List.getElem?_append_left hk] at h
      have hc := st.cell k _ h
      have ea : (ext2 m S.length D).at_ k = m.at_ k := if_neg q
      rw [ea]
      cases c with
      | lst zs => obtain ⟨us, e1, r1⟩ := hc; exact ⟨us, e1, up r1⟩
      | dic ks us => obtain ⟨kvs, e, k, r⟩ := hc; exact ⟨kvs, e, k, up r⟩
      | ins c fs => obtain ⟨dx, fvs, e, k, r⟩ := hc; exact ⟨dx, fvs, e, k, up r⟩
  · rw [hl] at hk
    show m.Z (if k = S.length then D else m.at_ k)
    by_cases q : k = S.length
    · rw [if_pos q]; exact z
    · rw [if_neg q]; exact st.inZ k (by omega)
theorem StoreR.placed {K : PySem.W.Frag} {S : Store} {m : Mp} {H : Hp} {D : Addr} {ys : List PV} {vs : List V} (st : StoreR K S m H) (z : m.Z D) (no : ∀ k, k < S.length → m.at_ k ≠ D) (hD : H D = Option.some (.lst vs)) (r : VRs K m S.length H ys vs) :
    StoreR K (S ++ [Cell.lst ys]) (ext2 m S.length D) H := st.placedC z no ⟨vs, hD, VRs.up r⟩
section
variable {X : Cx} {xC : Xs} {W : WX} {elt tg iter : Expr} {ifs : List Expr} {scope : Scope} {own : List (Str × Nat)} {pos : Pos}
/-- the state between two turns: D holds what has been made -/
structure Mid (K : PySem.W.Frag) (ρ : Env) (σ : L2.St) (m1 : Mp) (S1 : Store) (H1 : Hp) (w : Walk) (D : Addr) (acc : List PV) (S : Store) (m : Mp) (H : Hp) : Prop where
  st : StoreR K S m H
  z : m.Z D
  no : ∀ k, k < S.length → m.at_ k ≠ D
  there : ∃ vs, H D = some (.lst vs) ∧ VRs K m S.length H acc vs
  env : EnvR K ρ m S.length H σ
  ext : Ext m1 S1.length H1 m S.length H
  kept : keptOf w S = true
theorem e_lc (ob : Bool) (t : TG) (hc : X.calm = true) (hN : X.N.Nodup) {fi : Env → Store → Out Walk} {fc : Env → Store → Out Bool} {fe : Env → Store → Out PV}
    (hi : PI X tg iter (tIt X.K xC W fi)) (ok : BlkOk X.N X.env.scope scope own) (hsl : ∀ i ∈ slots t, i ∈ own.map (·.2))
    (hg : ∀ (s : Shared) (H : Hp) (C : Addr) (cl : List (Str × Addr)) (fp : List Addr), PG (X.blk s H scope (compEnvC scope cl C X.env) fp) tg (gT X.K t))
    (ht : ∀ (s : Shared) (H : Hp) (C : Addr) (cl : List (Str × Addr)) (fp : List Addr), PTs (X.blk s H scope (compEnvC scope cl C X.env) fp) ifs (tCo X.K xC W0 fc))
    (he : ∀ (s : Shared) (H : Hp) (C : Addr) (cl : List (Str × Addr)) (fp : List Addr), PE (X.blk s H scope (compEnvC scope cl C X.env) fp) elt (tE X.K xC W0 fe)) (hs : ∀ x, foldedSetIterable iter X.env x = pure x) :
    ∀ σ H Q, tE X.K xC W (lcF ob (own.map (·.2)) t fi fc fe) σ H Q → tLc (tIt X.K xC W fi) (gT X.K t) (tCo X.K xC W0 fc) (tE X.K xC W0 fe) (own.map (·.2)) σ H Q := by
  intro σ H Q ⟨ρ, S, m, G, q⟩
  refine ⟨ρ, S, m, G, OP.imp (fun w S1 m1 H1 e1 s1 q1 J wk kp => ?_) (OP.bind q)⟩
  have G1 := G.on e1 s1
  -- all turns come to an end
  have good : ∃ ys S', compL (compStep w (asg t) fc fe (wipe ρ (own.map (·.2)))) [] w.1 S1 = .ok ys S' := by
    refine compL_ok fun e => ?_
    rw [e] at q1
    exact q1
  obtain ⟨ys, Sf, hall⟩ := good
  rw [hall] at q1
  intro D hD
  have hwD : w.1.length ≤ SZ := by
    by_cases hz : w.1.length ≤ SZ
    · exact hz
    · have q1 : OP X.K xC W σ m1 S1 H1 _ (if w.1.length ≤ SZ then _ else Out.bad) := q1
      rw [if_neg hz] at q1
      exact q1.elim
  have trk : ∀ a, m1.Z a → H1 a ≠ none := fun a h => by obtain ⟨vs, e, _⟩ := s1.kind a h; rw [e]; exact fun z => nomatch z
  refine ⟨fun i mm H => mm = w.1.length - i ∧ i ≤ w.1.length ∧ ∃ acc S m, Mid X.K ρ σ m1 S1 H1 w D acc S m H ∧ acc.length ≤ i ∧ compL (compStep w (asg t) fc fe (wipe ρ (own.map (·.2)))) acc (w.1.drop i) S = .ok ys Sf,
    ⟨w.1.length, by simp, Nat.zero_le _, [], S1, hid m1 D, ⟨s1.hide hD, .inl rfl, fun k hk e => ?_, ⟨[], upd_same, .nil⟩, ?_, Ext.hide s1 hD, kp⟩, Nat.le_refl _, hall⟩, ?_⟩
  · obtain ⟨u, hu⟩ := s1.some k hk
    have e : m1.at_ k = D := e
    rw [e, hD] at hu; cases hu
  · exact G1.env.on s1 (Ext.hide s1 hD)
  rintro i mm H2 ⟨rfl, hi, acc, S2, m2, M, hacc, heq⟩
  have ww := wk S2 m2 H2 M.ext M.st M.kept
  by_cases hlt : i < w.1.length
  · -- a turn
    have hx : w.1[i]? = some w.1[i] := List.getElem?_eq_getElem hlt
    obtain ⟨hgo, hyld⟩ := ww.go i _ hx
    rw [List.drop_eq_getElem_cons hlt] at heq
    refine .inr ⟨hgo, fun H' => ∃ acc S m, Mid X.K ρ σ m1 S1 H1 w D acc S m H' ∧ acc.length ≤ i + 1 ∧ compL (compStep w (asg t) fc fe (wipe ρ (own.map (·.2)))) acc (w.1.drop (i + 1)) S = .ok ys Sf,
      fun H' h => ⟨w.1.length - (i + 1), by omega, rfl, hlt, h⟩, fun x H3 hy => ?_⟩
    obtain ⟨ex3, st3, rx⟩ := hyld x H3 hy
    -- what the step comes to
    unfold compL at heq
    generalize hst : compStep w (asg t) fc fe (wipe ρ (own.map (·.2))) w.1[i] S2 = r at heq
    unfold compStep at hst
    cases ha : asg t w.1[i] (wipe ρ (own.map (·.2))) with
    | none =>
      rw [ha] at hst
      subst hst
      cases heq
    | some ρ' =>
      rw [ha] at hst
      dsimp only at hst
      have E3 : EnvR X.K ρ m2 S2.length H3 σ := M.env.on M.st ex3
      refine ⟨wipe ρ (own.map (·.2)), S2, m2, w.1[i], ρ', ⟨E3.wipe _, st3⟩, rx, ha, fun σ4 G4 w4 => ⟨?_, ?_⟩⟩
      · rw [w4 _ hsl]
        have idem : ∀ vs : List Nat, L2.wipe (L2.wipe σ vs) vs = L2.wipe σ vs := by
          intro vs
          have gen : ∀ us : List Nat, (∀ u ∈ us, u ∈ vs) → L2.wipe (L2.wipe σ vs) us = L2.wipe σ vs := by
            intro us
            induction us with
            | nil => intro _; rfl
            | cons u us ih =>
              intro hu
              show (L2.wipe (L2.wipe σ vs) us).set u none = _
              rw [ih fun z hz => hu z (List.mem_cons_of_mem _ hz)]
              have hm : u ∈ vs := hu u List.mem_cons_self
              have clear : ∀ (vs : List Nat), u ∈ vs → (L2.wipe σ vs).set u none = L2.wipe σ vs := by
                intro vs
                induction vs with
                | nil => intro h; cases h
                | cons v vs ihv =>
                  intro h
                  show ((L2.wipe σ vs).set v none).set u none = (L2.wipe σ vs).set v none
                  by_cases e : u = v
                  · subst e; rw [List.set_set]
                  · rcases List.mem_cons.mp h with h | h
                    · exact absurd h e
                    · rw [List.set_comm _ _ (Ne.symm e), ihv h]
              exact clear vs hm
          exact gen vs fun u hu => hu
        exact idem _
      · refine ⟨ρ', S2, m2, G4, ?_⟩
        cases hcnd : fc ρ' S2 with
        | exc c as S4 => rw [hcnd] at hst; subst hst; cases heq
        | bad => rw [hcnd] at hst; subst hst; cases heq
        | ok b S4 =>
          rw [hcnd] at hst
          intro m4 H4 e4 s4
          have G5 := G4.on e4 s4
          have D3 : ∃ vs, H3 D = some (.lst vs) ∧ VRs X.K m2 S2.length H3 acc vs := by
            obtain ⟨vs, h1, h2⟩ := M.there
            exact ⟨vs, ex3.keep D _ h1 M.no, VRs.on M.st ex3 h2⟩
          have keepD : ∀ {m' : Mp} {S' : Store} {H' : Hp}, Ext m2 S2.length H3 m' S'.length H' → (∀ k, k < S'.length → m'.at_ k ≠ D) := fun {m' S' H'} e k hk z => by
            by_cases q : k < S2.length
            · rw [e.emb k q] at z; exact M.no k q z
            · exact (e.new k (Nat.le_of_not_lt q) hk).1 (by rw [z]; exact M.z)
          cases b with
          | false =>
            refine iteF ?_
            simp only [Out.bind_ok, Bool.false_eq_true, if_false] at hst
            split at hst
            · rename_i hk
              subst hst
              obtain ⟨vs, h1, h2⟩ := D3
              exact ⟨acc, S4, m4, ⟨s4, e4.sub D M.z, keepD e4, ⟨vs, e4.keep D _ h1 M.no, VRs.on st3 e4 h2⟩, E3.on st3 e4, (M.ext.trans ex3).trans e4, hk⟩, by omega, heq⟩
            · subst hst; cases heq
          | true =>
            refine iteT ?_
            simp only [Out.bind_ok, if_true] at hst
            refine ⟨ρ', S4, m4, G5, ?_⟩
            cases hel : fe ρ' S4 with
            | exc c as S5 => rw [hel] at hst; subst hst; cases heq
            | bad => rw [hel] at hst; subst hst; cases heq
            | ok y S5 =>
              rw [hel] at hst
              simp only [Out.bind_ok] at hst
              split at hst
              · rename_i hk
                subst hst
                intro m5 H5 e5 s5 x5 r5
                obtain ⟨vs, h1, h2⟩ := D3
                have e35 := e4.trans e5
                have hD5 : H5 D = some (.lst vs) := e35.keep D _ h1 M.no
                have hz5 : m5.Z D := e35.sub D M.z
                have no5 := keepD e35
                have r6 : VRs X.K m5 S5.length H5 (acc ++ [y]) (vs ++ [x5]) := (VRs.on st3 e35 h2).append (.cons r5 .nil)
                refine ⟨vs, hD5, ?_, acc ++ [y], S5, m5, ⟨s5.grow hz5 no5, hz5, no5, ⟨_, upd_same, VRs.wr s5 hz5 r6⟩, ?_, ?_, hk⟩, by rw [List.length_append]; simp; omega, heq⟩
                · have := h2.length
                  have e1 := SZ_eq
                  omega
                · have E5 : EnvR X.K ρ m5 S5.length H5 σ := E3.on st3 e35
                  exact ⟨E5.len, fun j v hv => let ⟨x, h1, h2⟩ := E5.get j v hv; ⟨x, h1, VR.wr s5 hz5 h2⟩⟩
                · have e15 := (M.ext.trans ex3).trans e35
                  refine ⟨e15.z0, e15.le, e15.emb, fun a o ha hk' => ?_, e15.sub, e15.fresh, e15.new⟩
                  rw [upd_ne fun z => by rw [z, hD] at ha; cases ha]
                  exact e15.keep a o ha hk'
              · subst hst; cases heq
  · -- the end
    have hi' : i = w.1.length := by omega
    subst hi'
    rw [List.drop_length] at heq
    cases heq
    refine .inl ⟨ww.stop _ (Nat.le_refl _), ?_⟩
    have q1 : OP X.K xC W σ m1 S1 H1 _ (if w.1.length ≤ SZ then (if ob then Out.ok (PV.ref Sf.length) (Sf ++ [Cell.lst ys]) else Out.ok (PV.lst ys) Sf) else Out.bad) := q1
    rw [if_pos hwD] at q1
    obtain ⟨vs, h1, h2⟩ := M.there
    cases ob with
    | false =>
      rw [if_neg Bool.false_ne_true] at q1
      exact q1 (shw m2 D) H2 (M.ext.shw hD trk) (M.st.shw M.no) _ (.lst (.inl ⟨.inl h1, fun z => z.1 rfl⟩) (VRs.shw h2))
    | true =>
      rw [if_pos rfl] at q1
      have hl : (Sf ++ [Cell.lst ys]).length = Sf.length + 1 := by simp
      have ea : (ext2 m2 Sf.length D).at_ Sf.length = D := if_pos rfl
      have := q1 (ext2 m2 Sf.length D) H2 ?_ (M.st.placed M.z M.no h1 h2) _ (.ref (k := Sf.length) (by rw [hl]; omega))
      · rw [ea] at this
        exact this
      · rw [hl]
        have e := M.ext
        refine ⟨e.z0, Nat.le_succ_of_le e.le, fun k hk => ?_, e.keep, e.sub, e.fresh, fun k h1 h2 => ?_⟩
        · have : k ≠ Sf.length := by have := e.le; omega
          show (if k = Sf.length then D else m2.at_ k) = _
          rw [if_neg this]
          exact e.emb k hk
        · show ¬ m1.Z (if k = Sf.length then D else m2.at_ k) ∧ H1 (if k = Sf.length then D else m2.at_ k) = none
          by_cases q : k = Sf.length
          · rw [if_pos q]
            exact ⟨s1.noneZ hD, hD⟩
          · rw [if_neg q]
            exact e.new k h1 (by omega)
end
end MK

set_option linter.all false
set_option autoImplicit false
set_option Elab.async false
set_option maxRecDepth 100000
set_option maxHeartbeats 4000000
/-! MkSup: an exception class of the program whose __init__ says super().__init__(text), self.f = its one argument. -/
namespace MK
open PySem PySem.Spec PyProof.Rows L2 NdefX

abbrev NS (p : Str) : List Str := ["self", p, "__class__"]
abbrev PSl (p : Str) : List Str := ["self", p]
abbrev CL : List Str := ["__class__"]
/-- what the written part says of such a class -/
structure SupC (P : Program) (K : PySem.W.Frag) (C fI : Addr) (F : NF) (p f : Str) (msg : Expr) : Prop where
  T : OexC K C
  iC : PySem.W.findIn K (.ref C) "__init__" = some (some (.ref fI))
  tI : PySem.W.typeIn K (.ref fI) = some (.type "function")
  lk : ∃ oc od doc pm ctv osl, K.lookup fI = some ⟨oc, od, .func (F.fd doc pm ctv), osl⟩
  cd : PySem.W.codeIn K (.ref F.c) F.qual = true
  file : ∃ ccl cdd vs ccs file tf, K.lookup F.c = some ⟨ccl, cdd, .fields vs, ccs⟩ ∧ vs[2]? = some (.str file tf) ∧ ((P.main.file : Str) == file) = true
  cell : ∃ cc cl cld csl, F.cl = [(("__class__" : Str), cc)] ∧ K.lookup cc = some ⟨cl, cld, .cell (some (.ref C)), csl⟩
  cls : ∃ cdD, PySem.W.clsIn K C = some cdD
  mro : PySem.W.mroIn K C (.ref C) = some true
  sup : PySem.W.ks_superIn K C C "__init__" = some (some (.builtin "ValueError.__init__"))
  isV : PySem.W.subIn K (.ref C) (.type "ValueError") = some true
  tp : PySem.W.nsIn K cStatics "thirdparty.any" = some none
  no : PySem.W.nsIn K mainGlobals "super" = some none
  nof : PySem.W.findIn K (.ref C) f = some none
  top : (P.main.scope.names.lookup ("super" : Str)).isSome = false
  par : ∃ ar, (F.params.posonlyargs ++ F.params.args).head? = some ar ∧ ar.arg = "self"
  sc : NScope (NS p) (PSl p) CL F.scope
  pd : (p == ("__debug__" : Str)) = false
  pc : (p == ("__classdict__" : Str)) = false
  scS : F.scope.names.lookup ("super" : Str) = some .globalImplicit
  body : ∃ p0 p1 p2 p3 p4 p5 p6 p7 p8, F.body = [.Expr (.Call (.Attribute (.Call (.Name "super" p0) [] [] p1) "__init__" p2) [msg] [] p3) p4, .Assign [.Attribute (.Name "self" p5) f p6] (.Name p p7) p8] ∧
    ∀ env : PySem.Env, starEach [msg] env = (false, eval msg env) :: starEach [] env ∧ ∃ pl : Sem Bool, eval (.Call (.Attribute (.Call (.Name "super" p0) [] [] p1) "__init__" p2) [msg] [] p3) env = (do
      let ov ← attributeBase (.Call (.Name "super" p0) [] [] p1) "__init__" env (eval (.Call (.Name "super" p0) [] [] p1) env)
      standAt p2.atName
      let (f, first) ← holding [ov] (getMethod ov "__init__" pl)
      callWith p3 f first (backTo p3 (starEach [msg] env)) [])

theorem int_no {env : PySem.Env} (h : env.scope.kind = .function) : interactive env = false := by
  unfold interactive
  rw [h]
  rfl
section
variable {X : Cx} {pins : List (Addr × Obj)} {σ : L2.St} {H : Hp} {s : Shared}
/-- one more pin -/
theorem pin_more (I : L2.Inv X pins σ H s) {u : Addr} {o : Obj} (h1 : s.heap.get? u = some o) (h2 : H u = none) (h3 : u ≠ X.env.locals) (h4 : u ∉ X.fs) (h5 : ∀ v, o.data ≠ .cell v) : L2.Inv X ((u, o) :: pins) σ H s :=
  ⟨I.ok, I.os, I.bare, I.base, I.loc, I.cell, I.free, I.freeC, fun p hp => by
    rcases List.mem_append.mp hp with hp | hp
    · exact I.pin p (List.mem_append_left _ hp)
    · rcases List.mem_cons.mp hp with rfl | hp
      · exact ⟨h1, h2, h3, h4, h5⟩
      · exact I.pin p (List.mem_append_right _ hp), I.hok, I.len⟩
theorem pin_less {q : Addr × Obj} (I : L2.Inv X (q :: pins) σ H s) : L2.Inv X pins σ H s :=
  ⟨I.ok, I.os, I.bare, I.base, I.loc, I.cell, I.free, I.freeC, fun p hp => I.pin p (by
    rcases List.mem_append.mp hp with hp | hp
    · exact List.mem_append_left _ hp
    · exact List.mem_append_right _ (List.mem_cons_of_mem _ hp)), I.hok, I.len⟩
/-- the built-in __init__, bound to the exception, called -/
theorem call_mw {A : Around} {E : Value → Shared → Prop} {u a C : Addr} {us : List Value} {Q : Value → Shared → Prop} (T : OexC X.K C) (I : L2.Inv X pins σ H s) (e : H a = some (exo a C none)) (hu : s.heap.get? u = some (PySem.W.kxs_mw "ValueError.__init__" a)) (hl : us.length ≤ sizeLine) (h : ∀ s', L2.Inv X pins σ H s' → Q .none s') :
    wpAny (model X.prog X.w) A (call (.ref u) us) Q E s := by
  obtain ⟨nm, q, N, bs, bm, sn, sub, ab, col, dd, k0, k1, k2, k3, k5, hC, hbm⟩ := T.cls
  obtain ⟨t1, ho⟩ := exo_at I.hok e
  have hC2 := I.kIn _ _ hC
  obtain ⟨hp, g, d, t, os⟩ := s
  have FB := F.excBase_ValueError
  refine wpAny_call (codeAny_of_tree ?_)
  show wpAny _ A.in1 (callAny (.ref u) ⟨us, []⟩) _ _ _
  unfold callAny
  refine wpAny_bind (wpAny_load hu ?_)
  simp only [PySem.W.kxs_mw, show (Value.type "method-wrapper" == Value.type "method") = false from by decide, show (Value.type "method-wrapper" == Value.type "method-wrapper") = true from by decide, Bool.or_true, if_true]
  refine PySem.W.KFB.if_so (by decide) ?_
  refine wpAny_bind (PySem.W.check_bound_init FB.toExcCallFacts hC2 ho rfl ?_)
  refine wpAny_bind (wpAny_pure (wpAny_pure ?_))
  refine ⟨plainId_quiet FB.init.plain _, codeAny_builtin FB.initEntry ?_⟩
  refine PySem.W.exc_init_tree (cls := .ref C) (t0 := t1) (dv := none) (c2 := .none) (c3 := .none) (b4 := .bool false) ho hl fun h' k hx _ => ?_
  have J := I.write (t' := t) (x := a) (e := a) (o := exo a C none) (by rw [e]; exact True.intro) (.inl rfl) k ⟨_, hx⟩ (exo_ok hx)
  have eu : upd H a (exo a C none) = H := by
    funext b
    by_cases hb : b = a
    · rw [hb, upd_same, e]
    · rw [upd_ne hb]
  rw [eu] at J
  exact h _ J
end
section
variable {P : Program} {w : World} {K : PySem.W.Frag} {mg : Str → Option Value} {base : Heap} {C fI : Addr} {F : NF} {p f : Str} {msg : Expr} {k : Nat} {good : V → Prop}
/-- what the __init__ promises -/
def supSp (K : PySem.W.Frag) (C : Addr) (f : Str) (good : V → Prop) : Sp := fun vs H Q E => ∃ (a : Addr) (v : V), vs = [.ref a, v] ∧ good v ∧ H a = some (exo a C none) ∧ ∀ d, H d = none → d ≠ a → Q .non (upd (upd H d (exd d [(f, v)])) a (exo a C (some d)))
theorem fnok_sup (SC : SupC P K C fI F p f msg)
    (hmsg : ∀ (A : Around) (outer : List PySem.Env) (s : Shared) (H : Hp) (E : XK) (k : Nat), Room k (A.deeper (envF F fI s.heap.objs.size)) → ∃ t, PE (ncx (L2.CX P w) P w K mg base (NS p) F fI A outer s H E) msg t ∧ ∀ (a : Addr) (v : V) (H' : Hp) (Q : VK), good v → (∀ z, Q (.str z) H') → t [some (.ref a), some v, none] H' Q)
    {fd : FuncData} (hfd : ∃ oc od doc pm ctv osl, fd = F.fd doc pm ctv ∧ K.lookup fI = some ⟨oc, od, .func fd, osl⟩) : FnOk P w K mg base (L2.CX P w) (k + 1) fI fd (PSl p) (supSp K C f good) := by
  refine ⟨fun vs H Q E h => ?_, fun A outer s H args us vs Q E hr e0 hb r hsp => ?_⟩
  · obtain ⟨a, v, rfl, _⟩ := h
    rfl
  obtain ⟨a, v, rfl, hg, ha, hq⟩ := hsp
  obtain ⟨oc, od, doc, pm, ctv, osl, rfl, lk⟩ := hfd
  have KX : K.In s.heap := e0.mod.kin.keeps fun b o e => (e0.bs b o e).1
  have lim : s.heap.NoLimit := e0.mod.nolimit.keeps fun b o e => (e0.bs b o e).1
  obtain ⟨cc, cl, cld, csl, hcl, hcc⟩ := SC.cell
  have hcell : s.heap.IsCell cc (some (.ref C)) := ⟨_, KX _ _ hcc, rfl⟩
  have hfree : H cc = none := (e0.bs _ _ (e0.mod.kin _ _ hcc)).2
  have look1 : ∀ {y : Str} {c : Addr}, F.cl.lookup y = some c → y = "__class__" ∧ c = cc := fun {y c} h => by
    rw [hcl] at h
    simp only [List.lookup] at h
    split at h
    · rename_i q
      exact ⟨by simpa using q, (Option.some.inj h).symm⟩
    · cases h
  have hC : CellsAt F.cl CL [none] s.heap H := ⟨rfl, fun y c h => by
      obtain ⟨_, rfl⟩ := look1 h
      exact ⟨hfree, _, hcell⟩, fun x y c h1 h2 => by
      rw [(look1 h1).1, (look1 h2).1], fun i y h => by
      cases i with
      | zero =>
        cases h
        refine ⟨cc, by rw [hcl]; rfl, fun v hv => ?_⟩
        simp at hv
      | succ i => simp at h⟩
  refine codeAny_call_function hr.depth (KX _ _ lk) rfl SC.sc.co SC.sc.gen rfl (PySem.W.codeRec_of KX SC.cd) (hb _ _ _ _ ?_)
  refine wpAny_newFunctionEnv SC.sc.nocell (fun ⟨n, _⟩ hy => SC.sc.par n (List.of_mem_zip hy).1) (fun h₁ hns hsb => ⟨lim.fresh _ hsb, ?_⟩) SC.sc.kind
  show codeAny _ _ (.func F.body (envF F fI s.heap.objs.size)) _ _
  refine ks_codeAny_funcAt ?_
  have kp : ∀ b o, s.heap.get? b = some o → h₁.get? b = some o := fun b o e => hsb.extBut b o (Nat.ne_of_lt (Heap.lt_size e)) (Heap.get?_push_of_some _ e)
  have I : L2.Inv (ncx (L2.CX P w) P w K mg base (NS p) F fI A outer s H E) [] (startF (NS p) [.ref a, v] [none]) H { s with heap := h₁, toks := s.toks + ((PSl p).zip us).length } := inv_startN SC.sc hr.hd e0 rfl r hC hns kp
  obtain ⟨p0, p1, p2, p3, p4, p5, p6, p7, p8, hbody, hev⟩ := SC.body
  obtain ⟨hstar, pl, hev⟩ := hev (envF F fI s.heap.objs.size)
  have hex : _root_.PySem.wpAt (model P w) (A.deeper (envF F fI s.heap.objs.size)) (.func F.body (envF F fI s.heap.objs.size)) (execs F.body (envF F fI s.heap.objs.size))
      (SP (ncx (L2.CX P w) P w K mg base (NS p) F fI A outer s H E) [] { nx := fun _ H' => Q .non H', rt := Q })
      (ncx (L2.CX P w) P w K mg base (NS p) F fI A outer s H E).xe { s with heap := h₁, toks := s.toks + ((PSl p).zip us).length } := by
    generalize hX : ncx (L2.CX P w) P w K mg base (NS p) F fI A outer s H E = Xi at I ⊢
    generalize s.toks + _ = tk at I ⊢
    obtain ⟨ccl, cdd, vs, ccs, file, tf, hco, hvs, hfile⟩ := SC.file
    obtain ⟨ar, hpar, harg⟩ := SC.par
    obtain ⟨cdD, hcd⟩ := SC.cls
    have hkF : (envF F fI s.heap.objs.size).scope.kind = .function := SC.sc.kind
    have KX1 : K.In h₁ := KX.keeps kp
    obtain ⟨mb, hmb1, hmb2⟩ := e0.mod.blt
    have bk1 : ∀ b o, base.get? b = some o → h₁.get? b = some o := fun b o e => kp b o (e0.bs b o e).1
    have hself : F.scope.names.lookup ("self" : Str) = some .local := SC.sc.par _ (by simp)
    obtain ⟨m, hns1, hlk⟩ := I.loc
    rw [hbody]
    refine ks_wpAt_execs_cons (ks_wpAt_Expr_any (ks_wpAt_MethodCall (pl := pl) ?_ hev) (int_no SC.sc.kind) rfl)
    refine ks_wpAt_super_base (env := envF F fI s.heap.objs.size) (fd := F.fd doc pm ctv) SC.scS (SC.sc.frk _ (by simp)) rfl rfl (KX1 _ _ lk) rfl hpar rfl (KX1 _ _ hco) rfl hvs hfile SC.top ?_
    refine PySem.W.ks_loadName_global SC.sc.kind SC.scS (PySem.Calls.loadGlobal_builtin (env := envF F fI s.heap.objs.size) (e0.mod.glob.keeps bk1) (PySem.W.mg_none_of e0.mod.kin e0.mod.glob SC.no) (hmb1.keeps bk1) ((hmb2 _ (by decide)).trans (by kernel_rfl)) ⟨rfl, ?_⟩)
    have hlook : (envF F fI s.heap.objs.size).cells.lookup ("__class__" : Str) = some cc := by
      show F.cl.lookup ("__class__" : Str) = some cc
      rw [hcl]
      rfl
    refine wpAny_loadName_free SC.sc.kind (SC.sc.frk _ (by simp)) hlook ⟨_, KX1 _ _ hcc, rfl⟩ ?_
    have hms : m "self" = some (.ref a) := by
      obtain ⟨u, ru, lk⟩ := hlk 0 "self" (.ref a) (by rw [← hX]; rfl) rfl (by rw [← hX]; exact .inl hself)
      have ru : u = .ref a := ru
      subst ru
      rcases lk with ⟨_, q⟩ | ⟨q, _⟩
      · exact q
      · rw [← hX] at q
        have q : F.scope.names.lookup ("self" : Str) = some .cell ∨ F.scope.names.lookup ("self" : Str) = some .free := q
        rw [hself] at q
        rcases q with q | q <;> cases q
    rw [harg]
    refine wpAny_loadName_local SC.sc.kind hself (by rw [← hX] at hns1; exact hns1) hms ?_
    obtain ⟨oD, hD1, hD2⟩ : ∃ oD, h₁.get? C = some oD ∧ oD.data = .cls cdD := by
      have hcd := hcd
      unfold PySem.W.clsIn at hcd
      split at hcd
      · rename_i c d cd' sl ho
        cases hcd
        exact ⟨_, KX1 _ _ ho, rfl⟩
      · cases hcd
    refine ks_wpAny_isType_cls hD1 hD2 ⟨rfl, ?_⟩
    obtain ⟨t1, hax⟩ := exo_at I.hok ha
    refine ks_wpAny_call_super hD1 hD2 hax rfl (fun c e => by cases e) (PySem.W.looks_mroIn KX1 SC.mro) (fun h2 e2 k2 => ?_)
    have I2 : L2.Inv Xi [] (startF (NS p) [.ref a, v] [none]) H { s with heap := h2, toks := tk } := I.kept (t' := tk) k2
    have KX2 : K.In h2 := KX1.keeps k2
    have hax2 := k2 _ _ hax
    have IA : PySem.W.InstAt h2 a _ C none := ⟨hax2, rfl, rfl, trivial⟩
    have hI : PySem.W.Looks (model P w) h2 (isInstance (.ref a) (.type "ValueError")) true := IA.type.andThen (PySem.W.looks_subIn KX2 SC.isV)
    have hsup := SC.sup
    unfold PySem.W.ks_superIn at hsup
    rw [hcd] at hsup
    refine PySem.W.kxs_getMethod PySem.W.kxs_ValueError e2 (PySem.W.looks_opaque KX2 SC.tp) (l₀ := cdD.mro) (fun A Q E s k q => wpAny_bind ((PySem.W.looks_clsIn KX2 hcd) A _ E s k (wpAny_pure q))) rfl KX2 hsup hI (PySem.W.ks_ne KX2 IA hcd) rfl ?_
    have hu : (h2.push (PySem.W.kxs_mw "ValueError.__init__" a)).get? h2.objs.size = some (PySem.W.kxs_mw "ValueError.__init__" a) := Heap.get?_push_at rfl rfl
    have k3 : ∀ b o, h2.get? b = some o → (h2.push (PySem.W.kxs_mw "ValueError.__init__" a)).get? b = some o := fun b o e => Heap.get?_push_of_some _ e
    have nU : H h2.objs.size = none := I2.hok.fresh (Nat.le_refl _)
    have nL : h2.objs.size ≠ Xi.env.locals := fun z => by
      have := I2.lt
      rw [← z] at this
      exact absurd this (Nat.lt_irrefl _)
    have nF : h2.objs.size ∉ Xi.fs := I2.nofs (Nat.le_refl _)
    have I3 := pin_more (I2.kept (t' := tk + 1) k3) hu nU nL nF (fun v e => by cases e)
    generalize h2.objs.size = u at hu nU nL nF I3 ⊢
    generalize h2.push (PySem.W.kxs_mw "ValueError.__init__" a) = h3 at hu k3 I3 ⊢
    refine PySem.W.kxs_callWith (i := "ValueError.__init__") (x := a) (by rw [hstar]; rfl) ?_
    obtain ⟨t, hpe, ht⟩ := hmsg A outer s H E _ (hr.deeper _)
    rw [hX] at hpe
    have hpa : PA Xi [msg] (tCons t tNil) := pa_cons hpe pa_nil (by rw [← hX]; exact hstar)
    rw [hstar]
    refine PySem.Calls.evalArgs_plain ?_
    have hrun := hpa.run p3 [(u, PySem.W.kxs_mw "ValueError.__init__" a)] _ _ H (fun vs H' => ∃ z, vs = [V.str z] ∧ H' = H) I3 (ht a v H _ hg fun z => ⟨z, rfl, rfl⟩)
    rw [show Xi.env = envF F fI s.heap.objs.size from by rw [← hX]; rfl] at hrun
    rw [hstar] at hrun
    rw [show Xi.prog = P from by rw [← hX]; rfl, show Xi.w = w from by rw [← hX]; rfl, show Xi.A = A.deeper (envF F fI s.heap.objs.size) from by rw [← hX]; rfl] at hrun
    refine thn hrun fun us s4 hh => ?_
    obtain ⟨vs, H', I4, rv, z, rfl, rfl⟩ := hh
    have hu4 : s4.heap.get? u = some (PySem.W.kxs_mw "ValueError.__init__" a) := (I4.pin (u, PySem.W.kxs_mw "ValueError.__init__" a) (by simp)).1
    refine ⟨hu4, ?_⟩
    have hlen : us.length ≤ sizeLine := by
      rw [← Paired.length rv, sizeLine_eq]
      show 1 ≤ 16777216
      decide
    subst hX
    refine call_mw (X := ncx (L2.CX P w) P w K mg base (NS p) F fI A outer s H' E) (pins := [(u, PySem.W.kxs_mw "ValueError.__init__" a)]) (σ := startF (NS p) [.ref a, v] [none]) (H := H') SC.T I4 ha hu4 hlen fun s5 I5 => ?_
    refine wpAt_of_wpAny ?_
    have J := pin_less I5
    have hp1 : F.scope.names.lookup p = some .local := SC.sc.par _ (by simp)
    have nd := SC.sc.nd
    refine (pss_one (ps_ost (pe_var (i := 0) rfl (.inl hself) rfl rfl) (pe_var (i := 1) rfl (.inl hp1) SC.pd SC.pc) rfl)).run [] s5 _ H' _ J ?_
    refine ⟨v, rfl, .ref a, rfl, a, C, rfl, SC.T, SC.nof, .inl ⟨ha, fun dx n ne => ?_⟩⟩
    exact hq dx n ne
  refine _root_.PySem.wpAt_mono hex (fun fl s' hs => ?_) fun e s' hs => hs
  have fin : ∀ {σ' : L2.St} {H' : Hp} {v : V} {u : Value}, L2.Inv (ncx (L2.CX P w) P w K mg base (NS p) F fI A outer s H E) [] σ' H' s' → L2.RelV v u → Q v H' → CE outer P w H s Q u s' :=
    fun {σ' H' v u} J rv q => ⟨v, H', J.os, J.bare, J.base, J.hok, rv, q⟩
  cases fl with
  | ret u =>
    obtain ⟨v, σ', H', J, rv, q⟩ := hs
    exact fin J rv q
  | next =>
    obtain ⟨σ', H', J, q⟩ := hs
    exact fin (v := V.non) (u := Value.none) J rfl q
  | brk =>
    obtain ⟨_, _, _, q⟩ := hs
    exact False.elim q
  | cont =>
    obtain ⟨_, _, _, q⟩ := hs
    exact False.elim q
end
end MK

set_option linter.all false
set_option autoImplicit false
set_option Elab.async false
set_option maxRecDepth 100000
set_option maxHeartbeats 4000000
/-! MkSt: statements. -/
namespace MK
open PySem PySem.Spec PyProof.Rows L2

section
variable (K : PySem.W.Frag) (xC : Xs)
def OS (W : WX) (m : Mp) (S : Store) (H : Hp) (D : Ends) : SOut → Prop
  | .next ρ' S' => ∀ m' H' σ', Ext m S.length H m' S'.length H' → Good K ρ' S' m' σ' H' → D.nx σ' H'
  | .ret v S' => ∀ m' H', Ext m S.length H m' S'.length H' → StoreR K S' m' H' → ∀ x, VR K m' S'.length H' v x → D.rt x H'
  | .brk ρ' S' => ∀ m' H' σ', Ext m S.length H m' S'.length H' → Good K ρ' S' m' σ' H' → D.bk σ' H'
  | .cont ρ' S' => ∀ m' H' σ', Ext m S.length H m' S'.length H' → Good K ρ' S' m' σ' H' → D.ct σ' H'
  | .exc c as ρ' S' => ∀ m' H' σ', Ext m S.length H m' S'.length H' → Good K ρ' S' m' σ' H' → ∀ d, XD xC c as d H' → W (.ref (xC.a c)) d σ' H'
  | .bad => False
def tS (W : WX) (f : Env → Store → SOut) : TS := fun D σ H => ∃ ρ S m, Good K ρ S m σ H ∧ OS K xC W m S H D (f ρ S)
end
section
variable {K : PySem.W.Frag} {xC : Xs} {W : WX} {σ : L2.St} {m m' : Mp} {S S' : Store} {H H' : Hp} {ρ : Env} {D D' : Ends}
theorem OS.ext (ex : Ext m S.length H m' S'.length H') : ∀ {o : SOut}, OS K xC W m S H D o → OS K xC W m' S' H' D o
  | .next ρ S2, h => fun m2 H2 σ2 e g => h m2 H2 σ2 (ex.trans e) g
  | .brk ρ S2, h => fun m2 H2 σ2 e g => h m2 H2 σ2 (ex.trans e) g
  | .cont ρ S2, h => fun m2 H2 σ2 e g => h m2 H2 σ2 (ex.trans e) g
  | .exc c as ρ S2, h => fun m2 H2 σ2 e g => h m2 H2 σ2 (ex.trans e) g
  | .ret v S2, h => fun m2 H2 e s => h m2 H2 (ex.trans e) s
  | .bad, h => h
/-- an expression's outcome within a statement -/
theorem OS.toS {α : Type} {f : α → Store → SOut} (G : Good K ρ S m σ H) : ∀ {o : Out α}, OS K xC W m S H D (o.toS ρ f) → OP K xC W σ m S H (fun a S1 m1 H1 => OS K xC W m1 S1 H1 D (f a S1)) o
  | .ok a S2, h => fun m2 H2 e s => OS.ext e h
  | .exc c as S2, h => fun m2 H2 e s => h m2 H2 σ e (G.on e s)
  | .bad, h => h
end

section
variable {X : Cx} {xC : Xs} {W : WX} {a b e tg : Expr} {f g : Env → Store → Out PV} {pos : Pos} {st : Stmt} {rest : List Stmt} {u v : Env → Store → SOut}

/-! ### blocks -/
theorem ss_nil : PSs X [] (tS X.K xC W fun ρ S => .next ρ S) := by
  refine pss_nil.imp fun D σ H ⟨ρ, S, m, G, q⟩ => ?_
  exact q m H σ (Ext.refl G.st) G
theorem ss_cons (h1 : PS X st (tS X.K xC W u)) (h2 : PSs X rest (tS X.K xC W v)) : PSs X (st :: rest) (tS X.K xC W fun ρ S => (u ρ S).andThen v) := by
  refine (pss_cons h1 h2).imp fun D σ H ⟨ρ, S, m, G, q⟩ => ?_
  refine ⟨ρ, S, m, G, ?_⟩
  dsimp only at q
  generalize u ρ S = o at q
  cases o with
  | next ρ' S' => exact fun m2 H2 σ2 e g => ⟨ρ', S', m2, g, OS.ext e q⟩
  | ret v S' => exact q
  | brk ρ' S' => exact q
  | cont ρ' S' => exact q
  | exc c as ρ' S' => exact q
  | bad => exact q

/-! ### small statements -/
theorem s_pass : PS X (.Pass pos) (tS X.K xC W fun ρ S => .next ρ S) := by
  refine ps_pass.imp fun D σ H ⟨ρ, S, m, G, q⟩ => ?_
  exact q m H σ (Ext.refl G.st) G
theorem s_brk : PS X (.Break pos) (tS X.K xC W fun ρ S => .brk ρ S) := by
  refine ps_break.imp fun D σ H ⟨ρ, S, m, G, q⟩ => ?_
  exact q m H σ (Ext.refl G.st) G
theorem s_cont : PS X (.Continue pos) (tS X.K xC W fun ρ S => .cont ρ S) := by
  refine ps_continue.imp fun D σ H ⟨ρ, S, m, G, q⟩ => ?_
  exact q m H σ (Ext.refl G.st) G
theorem s_retN : PS X (.Return none pos) (tS X.K xC W fun _ S => .ret .non S) := by
  refine ps_retN.imp fun D σ H ⟨ρ, S, m, G, q⟩ => ?_
  exact q m H (Ext.refl G.st) G.st _ .non
theorem s_ret (h : PE X a (tE X.K xC W f)) : PS X (.Return (some a) pos) (tS X.K xC W fun ρ S => (f ρ S).toS ρ fun v S1 => .ret v S1) := by
  refine (ps_ret h).imp fun D σ H ⟨ρ, S, m, G, q⟩ => ?_
  exact ⟨ρ, S, m, G, OP.imp (fun v S1 m1 H1 e1 s1 q1 x r => q1 m1 H1 (Ext.refl s1) s1 x r) (OS.toS G q)⟩
theorem s_ex (h : PE X a (tE X.K xC W f)) (hs : swapsWith a none pos.line X.env = pure false) : PS X (.Expr a pos) (tS X.K xC W fun ρ S => (f ρ S).toS ρ fun _ S1 => .next ρ S1) := by
  refine (ps_expr h hs).imp fun D σ H ⟨ρ, S, m, G, q⟩ => ?_
  exact ⟨ρ, S, m, G, OP.imp (fun v S1 m1 H1 e1 s1 q1 x r => q1 m1 H1 σ (Ext.refl s1) (G.on e1 s1)) (OS.toS G q)⟩
def ifF (f : Env → Store → Out PV) (u v : Env → Store → SOut) : Env → Store → SOut := fun ρ S => (f ρ S).toS ρ fun x S1 => match x with
  | .bl true => u ρ S1
  | .bl false => v ρ S1
  | _ => .bad
theorem s_if {as bs : List Stmt} (hc : PT X a (tT X.K xC W f)) (ha : PSs X as (tS X.K xC W u)) (hb : PSs X bs (tS X.K xC W v)) : PS X (.If a as bs pos) (tS X.K xC W (ifF f u v)) := by
  refine (ps_if hc ha hb).imp fun D σ H ⟨ρ, S, m, G, q⟩ => ?_
  refine ⟨ρ, S, m, G, OP.imp (fun x S1 m1 H1 e1 s1 q1 => ?_) (OS.toS G q)⟩
  cases x with
  | bl i =>
    refine ⟨i, rfl, ?_⟩
    cases i with
    | true => exact iteT ⟨ρ, S1, m1, G.on e1 s1, q1⟩
    | false => exact iteF ⟨ρ, S1, m1, G.on e1 s1, q1⟩
  | _ => exact q1.elim

/-! ### stores -/
def asgF (t : TG) (f : Env → Store → Out PV) : Env → Store → SOut := fun ρ S => (f ρ S).toS ρ fun v S1 => match asg t v ρ with
  | some ρ' => .next ρ' S1
  | none => .bad
theorem asg_end {t : TG} {ρ : Env} {S1 : Store} {m1 : Mp} {H1 : Hp} {σ : L2.St} {D : Ends} {v : PV} {x : V} (G : Good X.K ρ S1 m1 σ H1) (r : VR X.K m1 S1.length H1 v x)
    (q : OS X.K xC W m1 S1 H1 D (match asg t v ρ with | some ρ' => .next ρ' S1 | none => .bad)) : gT X.K t x σ H1 D.nx := by
  cases ha : asg t v ρ with
  | none => rw [ha] at q; exact q.elim
  | some ρ' =>
    rw [ha] at q
    exact ⟨ρ, S1, m1, v, ρ', G, r, ha, fun σ' G' _ => q m1 H1 σ' (Ext.refl G'.st) G'⟩
theorem s_asg {t : TG} (he : PE X e (tE X.K xC W f)) (hg : PG X tg (gT X.K t)) (hs : swapsWithSole [tg] e pos.line X.env = pure false) (hw : swappedStores [tg] e X.env = pure none)
    (h1 : (assignEach [tg] X.env).map (·.2) = [assign tg X.env]) : PS X (.Assign [tg] e pos) (tS X.K xC W (asgF t f)) := by
  refine (ps_asg he hg hs hw h1).imp fun D σ H ⟨ρ, S, m, G, q⟩ => ?_
  refine ⟨ρ, S, m, G, OP.imp (fun v S1 m1 H1 e1 s1 q1 x r => ?_) (OS.toS G q)⟩
  exact asg_end (G.on e1 s1) r q1
theorem s_set {i : Nat} {x : Str} {pos' : Pos} (hN : X.N.Nodup) (hi : X.N[i]? = some x) (hx : Loc X.env.scope x) (he : PE X e (tE X.K xC W f)) (hs : swapsWith e (some (.Name x pos')) pos.line X.env = pure false) (hf : X.fn x = true ∨ X.env.scope.names.lookup x = some .local) :
    PS X (.Assign [.Name x pos'] e pos) (tS X.K xC W (asgF (.nm i) f)) := by
  refine (ps_set hN hi hx he hs hf).imp fun D σ H ⟨ρ, S, m, G, q⟩ => ?_
  refine ⟨ρ, S, m, G, OP.imp (fun v S1 m1 H1 e1 s1 q1 x r => ?_) (OS.toS G q)⟩
  have q1 : OS X.K xC W m1 S1 H1 D (match (if i < ρ.length then some (ρ.set i (some v)) else none) with | some ρ' => .next ρ' S1 | none => .bad) := q1
  by_cases hl : i < ρ.length
  · rw [if_pos hl] at q1
    have G1 := G.on e1 s1
    exact q1 m1 H1 _ (Ext.refl s1) ⟨G1.env.set r hl, s1⟩
  · rw [if_neg hl] at q1
    exact q1.elim
/-- a comprehension stored at a local name -/
theorem s_setLc {i : Nat} {y : Str} {py : Pos} {elt iter : Expr} {ifs : List Expr} {scope : Scope} {own : List (Str × Nat)} {lpos : Pos} (ob : Bool) (t : TG) (hc : X.calm = true) (hN : X.N.Nodup) (hy : X.N[i]? = some y) (hyl : X.env.scope.names.lookup y = some .local)
    (hsw : swapsWith (.ListComp elt [⟨tg, iter, ifs, 0⟩] scope lpos) (some (.Name y py)) pos.line X.env = pure true)
    {fi : Env → Store → Out Walk} {fc : Env → Store → Out Bool} {fe : Env → Store → Out PV}
    (hi : PI X tg iter (tIt X.K xC W fi)) (ok : BlkOk X.N X.env.scope scope own) (hsl : ∀ i ∈ slots t, i ∈ own.map (·.2))
    (hg : ∀ (s : Shared) (H : Hp) (C : Addr) (cl : List (Str × Addr)) (fp : List Addr), PG (X.blk s H scope (compEnvC scope cl C X.env) fp) tg (gT X.K t))
    (ht : ∀ (s : Shared) (H : Hp) (C : Addr) (cl : List (Str × Addr)) (fp : List Addr), PTs (X.blk s H scope (compEnvC scope cl C X.env) fp) ifs (tCo X.K xC W0 fc))
    (he : ∀ (s : Shared) (H : Hp) (C : Addr) (cl : List (Str × Addr)) (fp : List Addr), PE (X.blk s H scope (compEnvC scope cl C X.env) fp) elt (tE X.K xC W0 fe)) (hs : ∀ x, foldedSetIterable iter X.env x = pure x) :
    PS X (.Assign [.Name y py] (.ListComp elt [⟨tg, iter, ifs, 0⟩] scope lpos) pos) (tS X.K xC W (asgF (.nm i) (lcF ob (own.map (·.2)) t fi fc fe))) := by
  refine (ps_setLc hc hN hy hyl hsw hi ok hg ht he hs).imp fun D σ H ⟨ρ, S, m, G, q⟩ => ?_
  refine e_lc ob t hc hN hi ok hsl hg ht he hs σ H _ ⟨ρ, S, m, G, OP.imp (fun v S1 m1 H1 e1 s1 q1 x r => ?_) (OS.toS G q)⟩
  have q1 : OS X.K xC W m1 S1 H1 D (match (if i < ρ.length then some (ρ.set i (some v)) else none) with | some ρ' => .next ρ' S1 | none => .bad) := q1
  by_cases hl : i < ρ.length
  · rw [if_pos hl] at q1
    have G1 := G.on e1 s1
    exact q1 m1 H1 _ (Ext.refl s1) ⟨G1.env.set r hl, s1⟩
  · rw [if_neg hl] at q1
    exact q1.elim
def tupF (l : Env → Store → Out (List PV)) : Env → Store → Out PV := fun ρ S => (l ρ S).bind fun vs S' => if vs.length ≤ SZ then .ok (.tup vs) S' else .bad
/-- the outcome of a tuple that is stored at once -/
theorem par_end {l : Env → Store → Out (List PV)} {ts : List TG} {ρ : Env} {S : Store} {m : Mp} {H : Hp} {σ : L2.St} {D : Ends} (G : Good X.K ρ S m σ H) (q : OS X.K xC W m S H D (asgF (.tp ts) (tupF l) ρ S)) :
    OP X.K xC W σ m S H (fun vs S1 m1 H1 => ∃ ρ', asgs ts vs ρ = some ρ' ∧ OS X.K xC W m1 S1 H1 D (.next ρ' S1)) (l ρ S) := by
  unfold asgF tupF at q
  cases hl : l ρ S with
  | ok vs S1 =>
    intro m1 H1 e1 s1
    rw [hl] at q
    by_cases hz : vs.length ≤ SZ
    · simp only [Out.bind_ok, if_pos hz, Out.toS_ok] at q
      have q : OS X.K xC W m S H D (match asgs ts vs ρ with | some ρ' => .next ρ' S1 | none => .bad) := q
      cases ha : asgs ts vs ρ with
      | none => rw [ha] at q; exact q.elim
      | some ρ' => rw [ha] at q; exact ⟨ρ', rfl, OS.ext e1 q⟩
    · simp only [Out.bind_ok, if_neg hz, Out.toS_bad] at q
      exact q.elim
  | exc c as S1 =>
    rw [hl] at q
    exact fun m1 H1 e1 s1 => q m1 H1 σ e1 (G.on e1 s1)
  | bad => rw [hl] at q; exact q
theorem s_par {i j : Nat} {x y : Str} {l : Env → Store → Out (List PV)} {px py pt : Pos} {kt k2 pt2} (hc : X.calm = true) (hN : X.N.Nodup) (hi : X.N[i]? = some x) (hj : X.N[j]? = some y) (hij : i ≠ j)
    (hx : X.env.scope.names.lookup x = some .local) (hy : X.env.scope.names.lookup y = some .local) (ha : PA X [a, b] (tA X.K xC W l))
    (hw : swappedStores [.Tuple [.Name x px, .Name y py] kt pt] (.Tuple [a, b] k2 pt2) X.env = pure (some [x, y])) :
    PS X (.Assign [.Tuple [.Name x px, .Name y py] kt pt] (.Tuple [a, b] k2 pt2) pos) (tS X.K xC W (asgF (.tp [.nm i, .nm j]) (tupF l))) := by
  refine (ps_par hc hN hi hj hij hx hy ha hw).imp fun D σ H ⟨ρ, S, m, G, q⟩ => ?_
  refine ⟨ρ, S, m, G, OP.imp (fun vs S1 m1 H1 e1 s1 q1 xs r => ?_) (par_end G q)⟩
  obtain ⟨ρ', ha, q2⟩ := q1
  have hlen := asgs_len ha
  match vs, xs, r, hlen, ha with
  | [v, w], [xv, xw], .cons rv (.cons rw' .nil), _, ha =>
    refine ⟨xv, xw, rfl, ?_⟩
    have ha : ((if i < ρ.length then some (ρ.set i (some v)) else none).bind fun ρ1 => (if j < ρ1.length then some (ρ1.set j (some w)) else none).bind fun ρ2 => some ρ2) = some ρ' := ha
    by_cases h1 : i < ρ.length
    · rw [if_pos h1] at ha
      simp only [Option.bind_some] at ha
      by_cases h2 : j < (ρ.set i (some v)).length
      · rw [if_pos h2] at ha
        cases ha
        have G1 := G.on e1 s1
        exact q2 m1 H1 _ (Ext.refl s1) ⟨(G1.env.set rv h1).set rw' h2, s1⟩
      · rw [if_neg h2] at ha; cases ha
    · rw [if_neg h1] at ha; cases ha
theorem s_par3 {i j k : Nat} {x y z : Str} {c : Expr} {l : Env → Store → Out (List PV)} {px py pz pt : Pos} {kt k2 pt2} (hc : X.calm = true) (hN : X.N.Nodup) (hi : X.N[i]? = some x) (hj : X.N[j]? = some y) (hk : X.N[k]? = some z) (hij : i ≠ j) (hik : i ≠ k) (hjk : j ≠ k)
    (hx : X.env.scope.names.lookup x = some .local) (hy : X.env.scope.names.lookup y = some .local) (hz : X.env.scope.names.lookup z = some .local) (ha : PA X [a, b, c] (tA X.K xC W l))
    (hw : swappedStores [.Tuple [.Name x px, .Name y py, .Name z pz] kt pt] (.Tuple [a, b, c] k2 pt2) X.env = pure (some [x, y, z])) :
    PS X (.Assign [.Tuple [.Name x px, .Name y py, .Name z pz] kt pt] (.Tuple [a, b, c] k2 pt2) pos) (tS X.K xC W (asgF (.tp [.nm i, .nm j, .nm k]) (tupF l))) := by
  refine (ps_par3 hc hN hi hj hk hij hik hjk hx hy hz ha hw).imp fun D σ H ⟨ρ, S, m, G, q⟩ => ?_
  refine ⟨ρ, S, m, G, OP.imp (fun vs S1 m1 H1 e1 s1 q1 xs r => ?_) (par_end G q)⟩
  obtain ⟨ρ', ha, q2⟩ := q1
  have hlen := asgs_len ha
  match vs, xs, r, hlen, ha with
  | [v, w, u], [xv, xw, xu], .cons rv (.cons rw' (.cons ru .nil)), _, ha =>
    refine ⟨xv, xw, xu, rfl, ?_⟩
    have ha : ((if i < ρ.length then some (ρ.set i (some v)) else none).bind fun ρ1 => (if j < ρ1.length then some (ρ1.set j (some w)) else none).bind fun ρ2 => (if k < ρ2.length then some (ρ2.set k (some u)) else none).bind fun ρ3 => some ρ3) = some ρ' := ha
    by_cases h1 : i < ρ.length
    · rw [if_pos h1] at ha
      simp only [Option.bind_some] at ha
      by_cases h2 : j < (ρ.set i (some v)).length
      · rw [if_pos h2] at ha
        simp only [Option.bind_some] at ha
        by_cases h3 : k < ((ρ.set i (some v)).set j (some w)).length
        · rw [if_pos h3] at ha
          cases ha
          have G1 := G.on e1 s1
          exact q2 m1 H1 _ (Ext.refl s1) ⟨((G1.env.set rv h1).set rw' h2).set ru h3, s1⟩
        · rw [if_neg h3] at ha; cases ha
      · rw [if_neg h2] at ha; cases ha
    · rw [if_neg h1] at ha; cases ha

/-! ### op= -/
theorem ip_ev (op : BO) : PIp X (opOf op) (fun x y H Q => ∃ S m u v w, StoreR X.K S m H ∧ VR X.K m S.length H u x ∧ VR X.K m S.length H v y ∧ evAug op u v = some w ∧ PEnd X.K S m H w Q) := by
  intro pins s σ H x y v u Q I rx ry h
  obtain ⟨S, m, a, b, w, st, ra, rb, e, q⟩ := h
  unfold evAug at e
  split at e
  · cases e; cases ra; cases rb
    exact iop_add pins s σ H _ _ v u Q I rx ry ⟨_, _, rfl, rfl, q.here st (.int _)⟩
  · cases e; cases ra; cases rb
    exact iop_sub pins s σ H _ _ v u Q I rx ry ⟨_, _, rfl, rfl, q.here st (.int _)⟩
  · split at e
    · rename_i hm
      cases e; cases ra; cases rb
      exact iop_mul pins s σ H _ _ v u Q I rx ry ⟨_, _, rfl, rfl, mulOk_C hm, q.here st (.int _)⟩
    · cases e
  · split at e
    · rename_i hm
      cases e; cases ra; cases rb
      exact iop_fdiv pins s σ H _ _ v u Q I rx ry ⟨_, _, rfl, rfl, hm, q.here st (.int _)⟩
    · cases e
  · split at e
    · rename_i hm
      cases e; cases ra; cases rb
      exact iop_mod pins s σ H _ _ v u Q I rx ry ⟨_, _, rfl, rfl, hm, q.here st (.int _)⟩
    · cases e
  · split at e
    · rename_i xs ys hm
      cases e
      cases ra with
      | str _ h1 =>
        cases rb with
        | str _ h2 =>
          have e3 : strV xs ++ strV ys = strV (xs ++ ys) := by
            show (⟨xs.toArray ++ ys.toArray⟩ : Str) = ⟨(xs ++ ys).toArray⟩
            simp
          refine in_addS pins s σ H _ _ v u Q I rx ry ⟨_, _, rfl, rfl, ?_, ?_⟩
          · rw [strV_length, strV_length, ← SZ_eq]; exact hm
          · rw [e3]
            exact q.here st (.str _ (h1.append h2 hm))
    · cases e
  · cases e
def augF (i : Nat) (op : BO) (f : Env → Store → Out PV) : Env → Store → SOut := fun ρ S => match ρ[i]? with
    | some (some x) => (f ρ S).toS ρ fun y S1 => match evAug op x y with
      | some z => .next (ρ.set i (some z)) S1
      | none => .bad
    | _ => .bad
theorem s_aug {i : Nat} {x : Str} {pos' : Pos} (op : BO) (hN : X.N.Nodup) (hi : X.N[i]? = some x) (hx : Loc X.env.scope x) (he : PE X e (tE X.K xC W f)) (hf : X.fn x = true ∨ X.env.scope.names.lookup x = some .local) :
    PS X (.AugAssign (.Name x pos') (opOf op) e pos) (tS X.K xC W (augF i op f)) := by
  refine (ps_aug hN hi hx he (ip_ev op) hf).imp fun D σ H ⟨ρ, S, m, G, q⟩ => ?_
  unfold augF at q
  cases hρ : ρ[i]? with
  | none => rw [hρ] at q; exact q.elim
  | some o =>
    cases o with
    | none => rw [hρ] at q; exact q.elim
    | some xv =>
      rw [hρ] at q
      obtain ⟨z, h1, h2⟩ := G.env.get i xv hρ
      refine ⟨z, h1, ρ, S, m, G, OP.imp (fun v S1 m1 H1 e1 s1 q1 y r => ?_) (OS.toS G q)⟩
      cases ha : evAug op xv v with
      | none => rw [ha] at q1; exact q1.elim
      | some w =>
        rw [ha] at q1
        have G1 := G.on e1 s1
        refine ⟨S1, m1, xv, v, w, s1, VR.on G.st e1 h2, r, ha, fun H2 e2 s2 z rz => ?_⟩
        have G2 := G1.on e2 s2
        exact q1 m1 H2 _ e2 ⟨G2.env.set rz (List.getElem?_eq_some_iff.mp hρ).1, s2⟩

/-! ### loops -/
def forF (t : TG) (fi : Env → Store → Out Walk) (u : Env → Store → SOut) : Env → Store → SOut := fun ρ S => (fi ρ S).toS ρ fun w S1 =>
    forL (forW (keptOf w) fun x ρ S => match asg t x ρ with
      | some ρ' => u ρ' S
      | none => .bad) w.1 ρ S1
theorem s_for {iter : Expr} {body : List Stmt} {t : TG} {fi : Env → Store → Out Walk} (hp : PassesOwn (model X.prog X.w) X.A X.env X.xe) (hc : X.calm = true) (hi : PI X tg iter (tIt X.K xC W fi)) (hg : PG X tg (gT X.K t)) (hb : PSs X body (tS X.K xC W u))
    (hs : ∀ x, foldedSetIterable iter X.env x = pure x) : PS X (.For tg iter body [] pos) (tS X.K xC W (forF t fi u)) := by
  refine (ps_for hp hc hi hg hb hs).imp fun D σ H ⟨ρ, S, m, G, q⟩ => ?_
  refine ⟨ρ, S, m, G, OP.imp (fun w S1 m1 H1 e1 s1 q1 J wk kp => ?_) (OS.toS G q)⟩
  refine ⟨fun i mm σ H => mm = w.1.length - i ∧ i ≤ w.1.length ∧ ∃ ρ S m, Good X.K ρ S m σ H ∧ Ext m1 S1.length H1 m S.length H ∧ keptOf w S = true ∧
      OS X.K xC W m S H D (forL (forW (keptOf w) fun x ρ S => match asg t x ρ with | some ρ' => u ρ' S | none => .bad) (w.1.drop i) ρ S),
    ⟨w.1.length, by simp, Nat.zero_le _, ρ, S1, m1, G.on e1 s1, Ext.refl s1, kp, q1⟩, ?_⟩
  rintro i mm σ2 H2 ⟨rfl, hi, ρ2, S2, m2, G2, e2, kp2, q2⟩
  have ww := wk S2 m2 H2 e2 G2.st kp2
  by_cases hlt : i < w.1.length
  · have hx : w.1[i]? = some w.1[i] := List.getElem?_eq_getElem hlt
    obtain ⟨hgo, hyld⟩ := ww.go i _ hx
    rw [List.drop_eq_getElem_cons hlt] at q2
    refine .inr ⟨hgo, fun σ' H' => ∃ ρ S m, Good X.K ρ S m σ' H' ∧ Ext m1 S1.length H1 m S.length H' ∧ keptOf w S = true ∧
        OS X.K xC W m S H' D (forL (forW (keptOf w) fun x ρ S => match asg t x ρ with | some ρ' => u ρ' S | none => .bad) (w.1.drop (i + 1)) ρ S),
      fun σ' H' h => ⟨w.1.length - (i + 1), by omega, rfl, hlt, h⟩, fun x H3 hy => ?_⟩
    obtain ⟨ex3, st3, rx⟩ := hyld x H3 hy
    have G3 : Good X.K ρ2 S2 m2 σ2 H3 := G2.on ex3 st3
    cases ha : asg t w.1[i] ρ2 with
    | none => simp only [forL, forW, ha] at q2; exact q2.elim
    | some ρ' =>
      simp only [forL, forW, ha] at q2
      refine ⟨ρ2, S2, m2, w.1[i], ρ', G3, rx, ha, fun σ4 G4 _ => ⟨ρ', S2, m2, G4, ?_⟩⟩
      have q3 := OS.ext ex3 q2
      generalize u ρ' S2 = o at q3
      cases o with
      | next ρ5 S5 =>
        intro m5 H5 σ5 e5 G5
        dsimp only at q3
        by_cases hk : keptOf w S5 = true
        · rw [if_pos hk] at q3
          exact ⟨ρ5, S5, m5, G5, (e2.trans ex3).trans e5, hk, OS.ext e5 q3⟩
        · rw [if_neg hk] at q3
          exact q3.elim
      | cont ρ5 S5 =>
        intro m5 H5 σ5 e5 G5
        dsimp only at q3
        by_cases hk : keptOf w S5 = true
        · rw [if_pos hk] at q3
          exact ⟨ρ5, S5, m5, G5, (e2.trans ex3).trans e5, hk, OS.ext e5 q3⟩
        · rw [if_neg hk] at q3
          exact q3.elim
      | brk ρ5 S5 => exact q3
      | ret v S5 => exact q3
      | exc c as ρ5 S5 => exact q3
      | bad => exact q3
  · have hi' : i = w.1.length := by omega
    subst hi'
    rw [List.drop_length] at q2
    exact .inl ⟨ww.stop _ (Nat.le_refl _), q2 m2 H2 σ2 (Ext.refl G2.st) G2⟩
theorem s_while {body : List Stmt} (n : Nat) (hp : PassesOwn (model X.prog X.w) X.A X.env X.xe) (hc : PT X a (tT X.K xC W f)) (hb : PSs X body (tS X.K xC W u)) : PS X (.While a body [] pos) (tS X.K xC W fun ρ S => whileL f u n ρ S) := by
  refine (ps_while hp hc hb).imp fun D σ H ⟨ρ, S, m, G, q⟩ => ?_
  refine ⟨fun k σ H => ∃ ρ S m, Good X.K ρ S m σ H ∧ OS X.K xC W m S H D (whileL f u k ρ S), ⟨n, ρ, S, m, G, q⟩, ?_⟩
  rintro k σ2 H2 ⟨ρ2, S2, m2, G2, q2⟩
  cases k with
  | zero => exact q2.elim
  | succ k =>
    refine ⟨ρ2, S2, m2, G2, OP.imp (fun x S1 m1 H1 e1 s1 q1 => ?_) (OS.toS G2 q2)⟩
    cases x with
    | bl i =>
      refine ⟨i, rfl, ?_⟩
      have G3 := G2.on e1 s1
      cases i with
      | true =>
        refine iteT ⟨fun σ' H' => ∃ ρ S m, Good X.K ρ S m σ' H' ∧ OS X.K xC W m S H' D (whileL f u k ρ S), fun σ' H' h => ⟨k, Nat.lt_succ_self k, h⟩, ρ2, S1, m1, G3, ?_⟩
        dsimp only at q1
        generalize u ρ2 S1 = o at q1
        cases o with
        | next ρ5 S5 => exact fun m5 H5 σ5 e5 G5 => ⟨ρ5, S5, m5, G5, OS.ext e5 q1⟩
        | cont ρ5 S5 => exact fun m5 H5 σ5 e5 G5 => ⟨ρ5, S5, m5, G5, OS.ext e5 q1⟩
        | brk ρ5 S5 => exact q1
        | ret v S5 => exact q1
        | exc c as ρ5 S5 => exact q1
        | bad => exact q1
      | false => exact iteF (q1 m1 H1 σ2 (Ext.refl s1) G3)
    | _ => exact q1.elim

/-! ### raise -/
theorem s_raise {C : Addr} {x msg : Str} {j : Nat} {p p2 cpos : Pos} {k : Nat} (hk : k < xC.n) (hxc : xC.a k = C) (hc : X.calm = true) (tk : Takes X W) (q : PySem.W.excIn X.K C [.type "ValueError", .type "Exception", .type "BaseException", .type "object"] "ValueError.__new__" = true) (gC : X.mg x = some (.ref C)) (kC : PySem.W.keepIn X.K (.ref C) = true) (r : Raises X (.ref C)) (hg : Gl X x)
    (hdb : (x == ("__debug__" : Str)) = false) : PS X (.Raise (some (.Call (.Name x p) [.Constant (.str msg) j p2] [] cpos)) none pos) (tS X.K xC W fun ρ S => .exc k [] ρ S) := by
  refine (ps_raise hc tk (pmk_own PySem.F.excBase_ValueError q gC kC r hg hdb)).imp fun D σ H ⟨ρ, S, m, G, q⟩ => ?_
  have := q m H σ (Ext.refl G.st) G none ⟨hk, rfl⟩
  rw [hxc] at this
  exact this
/-- what such an __init__ takes -/
def goodX (v : V) : Prop := (∃ i : Int, v = .int i ∧ i.natAbs < 2 ^ 64) ∨ ∃ z : Str, v = .str z ∧ z.length ≤ 1000000
theorem xOk_good {K : PySem.W.Frag} {m : Mp} {n : Nat} {H : Hp} {v : PV} {x : V} (h : xOk v = true) (r : VR K m n H v x) : goodX x ∧ x = flatV v ∧ ∀ s, v = .str s → okS s := by
  cases r with
  | int i => exact ⟨.inl ⟨i, rfl, of_decide_eq_true h⟩, rfl, fun s e => by cases e⟩
  | str s h1 => exact ⟨.inr ⟨strV s, rfl, by rw [strV_length]; exact of_decide_eq_true h⟩, rfl, fun s e => by cases e; exact h1⟩
  | _ => exact absurd (show false = true from h) Bool.false_ne_true
theorem s_raiseA {C fI : Addr} {x f pr : Str} {fd : FuncData} {j : Nat} {p cpos : Pos} {k : Nat} {g : Env → Store → Out PV} (hk : k < xC.n) (hxc : xC.a k = C) (hxf : xC.f k = some f) (hc : X.calm = true) (tk : Takes X W) (T : OexC X.K C)
    (iC : PySem.W.findIn X.K (.ref C) "__init__" = some (some (.ref fI))) (tI : PySem.W.typeIn X.K (.ref fI) = some (.type "function")) (F1 : FnOk X.prog X.w X.K X.mg X.base (L2.CX X.prog X.w) j fI fd (PSl pr) (supSp X.K C f goodX)) (hr : Room (j + 1) X.A) (hb : Binds X.K fd (PSl pr) [])
    (hg : Gl X x) (hm : X.mg x = some (.ref C)) (hdb : (x == ("__debug__" : Str)) = false) (he : PE X e (tE X.K xC W g)) (hst : starEach [e] X.env = (false, eval e X.env) :: starEach [] X.env) :
    PS X (.Raise (some (.Call (.Name x p) [e] [] cpos)) none pos) (tS X.K xC W fun ρ S => (g ρ S).toS ρ fun v S1 => if xOk v then .exc k [v] ρ S1 else .bad) := by
  refine (ps_raise hc tk (pmk_oex (dvs := []) T iC tI F1 hr hb .nil passL hg hm (pa_cons he pa_nil hst) hdb hst)).imp fun D σ H ⟨ρ, S, m, G, q⟩ => ?_
  refine ⟨ρ, S, m, G, OP.imp (fun v S1 m1 H1 e1 s1 q1 x r => ?_) (OS.toS G q)⟩
  by_cases hv : xOk v = true
  · rw [if_pos hv] at q1
    obtain ⟨g1, rfl, g2⟩ := xOk_good hv r
    refine ⟨by show 1 ≤ 1000; decide, fun a ha => ⟨a, _, rfl, g1, upd_same, fun d hd hda => ?_⟩⟩
    have hd1 : H1 d = none := by
      rw [upd_ne hda] at hd
      exact hd
    refine ⟨rfl, d, [(f, flatV v)], upd_same, by rw [upd_ne hda, upd_same], hd1, ?_⟩
    have eH : upd (del (upd (upd (upd H1 a (exo a C none)) d (exd d [(f, flatV v)])) a (exo a C (some d))) a) d (.xd [(f, flatV v)]) = upd H1 d (.xd [(f, flatV v)]) := by
      funext b
      by_cases hb : b = d
      · rw [hb, upd_same, upd_same]
      · rw [upd_ne hb, upd_ne hb]
        by_cases hba : b = a
        · rw [hba, del_same, ha]
        · rw [del_ne hba, upd_ne hba, upd_ne hb, upd_ne hba]
    rw [eH]
    have := q1 m1 (upd H1 d (.xd [(f, flatV v)])) σ (Ext.push s1 hd1) ((G.on e1 s1).on (Ext.push s1 hd1) (s1.push hd1)) (some d) ⟨hk, rfl, hv, g2, f, d, hxf, rfl, upd_same⟩
    rw [hxc] at this
    exact this
  · rw [if_neg hv] at q1
    exact q1.elim
end
end MK

set_option linter.all false
set_option autoImplicit false
set_option Elab.async false
set_option maxRecDepth 100000
set_option maxHeartbeats 4000000
/-! MkSt2: stores into instances and dicts. -/
namespace MK
open PySem PySem.Spec PyProof.Rows L2
section
variable {K : PySem.W.Frag} {m : Mp} {H : Hp} {S S' : Store}
/-- x.f = v: where it goes -/
theorem setF_ok {c f : List Nat} {x v : PV} {xv y : V} (st : StoreR K S m H) (rx : VR K m S.length H x xv) (ry : VR K m S.length H v y) (h : setF S c x f v = some S') :
    ∃ a dx fvs, xv = .ref a ∧ H a = some (.ins (clA K c) dx fvs) ∧ fvs.length < 1000 ∧ Ext m S.length H m S'.length (upd H a (.ins (clA K c) dx (putF (strV f) y fvs))) ∧ StoreR K S' m (upd H a (.ins (clA K c) dx (putF (strV f) y fvs))) := by
  unfold setF at h
  split at h
  · rename_i n
    cases rx with
    | ref hn =>
      split at h
      · rename_i c' fs hS
        split at h
        · rename_i hc
          cases h
          obtain ⟨rfl, h9⟩ := hc
          obtain ⟨dx, fvs, e1, e2, r⟩ := st.cell n _ hS
          obtain ⟨p1, p2⟩ := putN_ok (f := f) ry e2 r
          refine ⟨_, dx, fvs, rfl, e1, ?_, by rw [List.length_set]; exact Ext.write st hn, st.writeC hn trivial ⟨dx, _, upd_same, p1, VRs.wr st (st.inZ n hn) p2⟩⟩
          have := congrArg List.length e2
          rw [List.length_map, List.length_map] at this
          omega
        · cases h
      · cases h
  · cases h
theorem fldOf_ok {c f : List Nat} {x v : PV} {xv : V} (st : StoreR K S m H) (rx : VR K m S.length H x xv) (h : fldOf S c x f = some v) : ∃ a dx fvs y, xv = .ref a ∧ H a = some (.ins (clA K c) dx fvs) ∧ fvs.lookup (strV f) = some y ∧ VR K m S.length H v y := by
  unfold fldOf at h
  split at h
  · rename_i c' fs hi
    split at h
    · rename_i hcc
      subst hcc
      obtain ⟨k, dx, fvs, rfl, hk, hS, rfl, hH, e1', r⟩ := VR.insOf st rx hi
      obtain ⟨y, hy, ry⟩ := (lookF_ok e1' r).1 v h
      exact ⟨_, dx, fvs, y, rfl, hH, hy, ry⟩
    · cases h
  · cases h
/-- d[k] = v: where it goes -/
theorem dicPut_ok {x k v : PV} {xv ky y : V} (st : StoreR K S m H) (rx : VR K m S.length H x xv) (rk : VR K m S.length H k ky) (ry : VR K m S.length H v y) (h : dicPut S x k v = some S') :
    ∃ a H', xv = .ref a ∧ DPut H a ky y H' ∧ Ext m S.length H m S'.length H' ∧ StoreR K S' m H' := by
  unfold dicPut at h
  split at h
  · rename_i n
    cases rx with
    | ref hn =>
      split at h
      · rename_i ks us hS
        split at h
        · rename_i hk
          cases h
          obtain ⟨h1, h2⟩ := hk
          obtain ⟨kvs, e1, kr, r⟩ := st.cell n _ hS
          obtain ⟨ka, hka⟩ := keyV_of h1
          have := kV_of hka rk
          subst this
          obtain ⟨p1, p2⟩ := put_ok hka (okS_of rk) ry kr r
          exact ⟨_, _, rfl, DPut.k e1 (by rw [← kr.length, ← SZ_eq]; exact h2), by rw [List.length_set]; exact Ext.write st hn, st.writeC hn trivial ⟨_, upd_same, p1, VRs.wr st (st.inZ n hn) p2⟩⟩
        · cases h
      · cases h
  · cases h
end
theorem sw_at (e o : Expr) (f : Str) (p : Pos) (l : Nat) (env : PySem.Env) : swapsWith e (some (.Attribute o f p)) l env = pure false := by cases e <;> rfl
theorem sw_sub (e o i : Expr) (p : Pos) (l : Nat) (env : PySem.Env) : swapsWith e (some (.Subscript o i p)) l env = pure false := by cases e <;> rfl
section
variable {X : Cx} {xC : Xs} {W : WX} {a b e o k d : Expr} {f g h : Env → Store → Out PV} {pos pos' : Pos}
def sfldF (c n : List Nat) (f g : Env → Store → Out PV) : Env → Store → SOut := fun ρ S => (g ρ S).toS ρ fun v S1 => (f ρ S1).toS ρ fun x S2 => match setF S2 c x n v with
    | some S3 => .next ρ S3
    | none => .bad
theorem s_fld {c n : List Nat} {x : Str} (hx : x = strV n) (hc : FldOk X.K c n) (ha : PE X a (tE X.K xC W f)) (he : PE X e (tE X.K xC W g)) : PS X (.Assign [.Attribute a x pos'] e pos) (tS X.K xC W (sfldF c n f g)) := by
  subst hx
  refine (ps_fld ha he (sw_at _ _ _ _ _ _)).imp fun D σ H ⟨ρ, S, m, G, q⟩ => ?_
  refine ⟨ρ, S, m, G, OP.imp (fun v S1 m1 H1 e1 s1 q1 y ry => ?_) (OS.toS G q)⟩
  have G1 := G.on e1 s1
  refine ⟨ρ, S1, m1, G1, OP.imp (fun x S2 m2 H2 e2 s2 q2 xv rx => ?_) (OS.toS G1 q1)⟩
  have G2 := G1.on e2 s2
  cases hs : setF S2 c x n v with
  | none => rw [hs] at q2; exact q2.elim
  | some S3 =>
    rw [hs] at q2
    obtain ⟨ad, dx, fvs, h1, h2, h3, h4, h5⟩ := setF_ok s2 rx (VR.on s1 e2 ry) hs
    exact ⟨ad, _, dx, fvs, h1, h2, hc.cls, hc.no, h3, q2 m2 _ σ h4 (G2.on h4 h5)⟩
def dputF (f g h : Env → Store → Out PV) : Env → Store → SOut := fun ρ S => (h ρ S).toS ρ fun v S1 => (f ρ S1).toS ρ fun x S2 => (g ρ S2).toS ρ fun y S3 => match dicPut S3 x y v with
    | some S4 => .next ρ S4
    | none => .bad
theorem s_dput (hu : X.A.units + 1 < cLine) (hd : PE X d (tE X.K xC W f)) (hk : PE X k (tE X.K xC W g)) (he : PE X e (tE X.K xC W h)) : PS X (.Assign [.Subscript d k pos'] e pos) (tS X.K xC W (dputF f g h)) := by
  refine (ps_dput hu hd hk he (sw_sub _ _ _ _ _ _)).imp fun D σ H ⟨ρ, S, m, G, q⟩ => ?_
  refine ⟨ρ, S, m, G, OP.imp (fun v S1 m1 H1 e1 s1 q1 y ry => ?_) (OS.toS G q)⟩
  have G1 := G.on e1 s1
  refine ⟨ρ, S1, m1, G1, OP.imp (fun x S2 m2 H2 e2 s2 q2 xv rx => ?_) (OS.toS G1 q1)⟩
  have G2 := G1.on e2 s2
  refine ⟨ρ, S2, m2, G2, OP.imp (fun kk S3 m3 H3 e3 s3 q3 kv rk => ?_) (OS.toS G2 q2)⟩
  have G3 := G2.on e3 s3
  cases hs : dicPut S3 x kk v with
  | none => rw [hs] at q3; exact q3.elim
  | some S4 =>
    rw [hs] at q3
    obtain ⟨ad, H', h1, h2, h4, h5⟩ := dicPut_ok s3 (VR.on s2 e3 rx) rk (VR.on s2 e3 (VR.on s1 e2 ry)) hs
    exact ⟨ad, H', h1, h2, q3 m3 _ σ h4 (G3.on h4 h5)⟩
def afldF (c n : List Nat) (op : BO) (f g : Env → Store → Out PV) : Env → Store → SOut := fun ρ S => (f ρ S).toS ρ fun x S1 => match fldOf S1 c x n with
    | some u => (g ρ S1).toS ρ fun y S2 => match evAug op u y with
      | some z => match setF S2 c x n z with
        | some S3 => .next ρ S3
        | none => .bad
      | none => .bad
    | none => .bad
theorem s_afld {c n : List Nat} {x : Str} (op : BO) (hx : x = strV n) (hc : FldOk X.K c n) (ha : PE X a (tE X.K xC W f)) (he : PE X e (tE X.K xC W g)) : PS X (.AugAssign (.Attribute a x pos') (opOf op) e pos) (tS X.K xC W (afldF c n op f g)) := by
  subst hx
  refine (ps_fldaug (rd := fun x y H Q => ∃ S m u v w, StoreR X.K S m H ∧ VR X.K m S.length H u x ∧ VR X.K m S.length H v y ∧ evAug op u v = some w ∧ PEnd X.K S m H w Q) ha he (fun pins s σ H x y u v Q I rx ry h => ip_ev op pins s σ H x y u v Q I rx ry h)).imp fun D σ H ⟨ρ, S, m, G, q⟩ => ?_
  refine ⟨ρ, S, m, G, OP.imp (fun x S1 m1 H1 e1 s1 q1 xv rx => ?_) (OS.toS G q)⟩
  have G1 := G.on e1 s1
  cases hu : fldOf S1 c x n with
  | none => rw [hu] at q1; exact q1.elim
  | some u =>
    rw [hu] at q1
    obtain ⟨ad, dx, fvs, uv, rfl, h2, h3, ru⟩ := fldOf_ok s1 rx hu
    refine ⟨ad, _, dx, fvs, uv, rfl, h2, hc.cls, hc.no, h3, ρ, S1, m1, G1, OP.imp (fun y S2 m2 H2 e2 s2 q2 yv ry => ?_) (OS.toS G1 q1)⟩
    have G2 := G1.on e2 s2
    cases ha : evAug op u y with
    | none => rw [ha] at q2; exact q2.elim
    | some z =>
      rw [ha] at q2
      refine ⟨S2, m2, u, y, z, s2, VR.on s1 e2 ru, ry, ha, fun H3 e3 s3 zv rz => ?_⟩
      have rx3 := VR.on s2 e3 (VR.on s1 e2 rx)
      have q2 : OS X.K xC W m2 S2 H2 D (match setF S2 c x n z with | some S3 => .next ρ S3 | none => .bad) := q2
      cases hs : setF S2 c x n z with
      | none => rw [hs] at q2; exact q2.elim
      | some S3 =>
        rw [hs] at q2
        obtain ⟨ad', dx', fvs', h1, h2', h3', h4, h5⟩ := setF_ok s3 rx3 rz hs
        have : ad = ad' := V.ref.inj h1
        subst this
        exact ⟨dx', fvs', h2', h3', q2 m2 _ σ (e3.trans h4) ((G2.on e3 s3).on h4 h5)⟩
/-! ### several targets, attributes among them -/
def gAT (K : PySem.W.Frag) (t : AT) : L2.TG := fun v σ H Q => ∃ ρ S m pv ρ' S', Good K ρ S m σ H ∧ VR K m S.length H pv v ∧ asgAs [t] [pv] ρ S = some (ρ', S') ∧ ∀ σ' H', Ext m S.length H m S'.length H' → Good K ρ' S' m σ' H' → Q σ' H'
def gATs (K : PySem.W.Frag) (ts : List AT) : L2.TGs := fun vs σ H Q => ∃ ρ S m pvs ρ' S', Good K ρ S m σ H ∧ VRs K m S.length H pvs vs ∧ asgAs ts pvs ρ S = some (ρ', S') ∧ ∀ σ' H', Ext m S.length H m S'.length H' → Good K ρ' S' m σ' H' → Q σ' H'
theorem at_cons {t : AT} {ts : List AT} {v : PV} {vs : List PV} {ρ ρ' : Env} {S S' : Store} (h : asgAs (t :: ts) (v :: vs) ρ S = some (ρ', S')) : ∃ ρ1 S1, asgAs [t] [v] ρ S = some (ρ1, S1) ∧ asgAs ts vs ρ1 S1 = some (ρ', S') := by
  cases t with
  | nm i =>
    have h : (if i < ρ.length then asgAs ts vs (ρ.set i (some v)) S else none) = some (ρ', S') := h
    split at h
    · rename_i hl
      exact ⟨ρ.set i (some v), S, if_pos hl, h⟩
    · cases h
  | at_ c i f =>
    have h : (match ρ[i]? with | some (some x) => (setF S c x f v).bind fun S' => asgAs ts vs ρ S' | _ => none) = some (ρ', S') := h
    split at h
    · rename_i x hx
      obtain ⟨S1, h1, h2⟩ := Option.bind_eq_some_iff.mp h
      refine ⟨ρ, S1, ?_, h2⟩
      show (match ρ[i]? with | some (some x) => (setF S c x f v).bind fun S' => asgAs [] [] ρ S' | _ => none) = _
      rw [hx]
      show (setF S c x f v).bind (fun S' => asgAs [] [] ρ S') = _
      rw [h1]
      rfl
    · cases h
theorem gA_name {i : Nat} {x : Str} {p : Pos} (hN : X.N.Nodup) (hi : X.N[i]? = some x) (hx : Loc X.env.scope x) (hf : X.fn x = true ∨ X.env.scope.names.lookup x = some .local) : PG X (.Name x p) (gAT X.K (.nm i)) := by
  refine (pg_name hN hi hx hf).imp fun v σ H Q ⟨ρ, S, m, pv, ρ', S', G, r, e, q⟩ => ?_
  have e : (if i < ρ.length then some (ρ.set i (some pv), S) else none) = some (ρ', S') := e
  split at e
  · rename_i hl
    cases e
    exact q _ _ (Ext.refl G.st) ⟨G.env.set r hl, G.st⟩
  · cases e
theorem pg_fld {te : TE} {x : Str} (ho : PE X o te) : PG X (.Attribute o x pos) (fun v σ H Q => te σ H fun ov H1 => ∃ a C dx fs, ov = .ref a ∧ H1 a = some (.ins C dx fs) ∧ Cls X.K C ∧ NoAttr X.K C x ∧ fs.length < 1000 ∧ Q σ (upd H1 a (.ins C dx (putF x v fs)))) := by
  refine ⟨fun pins s σ H v u Q I r h => ?_⟩
  rw [arm_assign_Attribute]
  refine wpAny_bind (wpAny_holding (thn (ho.run pins s σ H _ I h) fun ov s1 ⟨y, H1, I1, ry, a, C, dx, fs, ey, ea, c, n, l, q⟩ => ?_))
  subst ey
  obtain rfl : ov = Value.ref a := ry
  refine wpAny_bind (wpAny_standAt ?_)
  refine wpAny_bind (wpAny_holding (setattr_ok I1 ea c n l r fun s2 I2 => ?_))
  exact wpAny_release ⟨σ, _, I2, q⟩
theorem gA_at {c n : List Nat} {i : Nat} {x y : Str} {p : Pos} (hx : x = strV n) (hc : FldOk X.K c n) (hN : X.N[i]? = some y) (hv : Vis X.env.scope y) (hd : (y == ("__debug__" : Str)) = false) (hcd : (y == ("__classdict__" : Str)) = false) : PG X (.Attribute (.Name y p) x pos) (gAT X.K (.at_ c i n)) := by
  subst hx
  refine (pg_fld (pe_var hN hv hd hcd)).imp fun v σ H Q ⟨ρ, S, m, pv, ρ', S', G, r, e, q⟩ => ?_
  have e : (match ρ[i]? with | some (some x) => (setF S c x n pv).bind fun S' => asgAs [] [] ρ S' | _ => none) = some (ρ', S') := e
  split at e
  · rename_i x hx
    obtain ⟨S1, h1, h2⟩ := Option.bind_eq_some_iff.mp e
    cases h2
    obtain ⟨xv, g1, g2⟩ := G.env.get i x hx
    obtain ⟨ad, dx, fvs, k1, k2, k3, k4, k5⟩ := setF_ok G.st g2 r h1
    exact ⟨xv, g1, ad, _, dx, fvs, k1, k2, hc.cls, hc.no, k3, q σ _ k4 (G.on k4 k5)⟩
  · cases e
theorem gA_nil : PGs X [] (gATs X.K []) := by
  refine pgs_nil.imp fun v σ H Q ⟨ρ, S, m, pv, ρ', S', G, r, e, q⟩ => ?_
  cases r with
  | nil =>
    cases e
    exact ⟨rfl, q σ H (Ext.refl G.st) G⟩
  | cons _ _ => cases e
theorem gA_cons {e : Expr} {es : List Expr} {t : AT} {ts : List AT} (h1 : PG X e (gAT X.K t)) (h2 : PGs X es (gATs X.K ts)) (hs : (assignEach (e :: es) X.env).map (·.2) = assign e X.env :: (assignEach es X.env).map (·.2)) : PGs X (e :: es) (gATs X.K (t :: ts)) := by
  refine (pgs_cons h1 h2 hs).imp fun v σ H Q ⟨ρ, S, m, pv, ρ', S', G, r, ea, q⟩ => ?_
  cases r with
  | nil => cases t <;> cases ea
  | @cons p x ps xs rp rs =>
    obtain ⟨ρ1, S1, ea1, ea2⟩ := at_cons ea
    refine ⟨x, xs, rfl, ρ, S, m, p, ρ1, S1, G, rp, ea1, fun σ1 H1 x1 G1 => ?_⟩
    exact ⟨ρ1, S1, m, ps, ρ', S', G1, VRs.on G.st x1 rs, ea2, fun σ2 H2 x2 G2 => q σ2 H2 (x1.trans x2) G2⟩
theorem asgAs_len : ∀ {ts : List AT} {vs : List PV} {ρ ρ' : Env} {S S' : Store}, asgAs ts vs ρ S = some (ρ', S') → vs.length = ts.length
  | [], [], _, _, _, _, _ => rfl
  | [], _ :: _, _, _, _, _, h => by cases h
  | t :: _, [], _, _, _, _, h => by cases t <;> cases h
  | t :: ts, v :: vs, _, _, _, _, h => by
    obtain ⟨_, _, _, h2⟩ := at_cons h
    rw [List.length_cons, List.length_cons, asgAs_len h2]
def asgAF (ts : List AT) (f : Env → Store → Out PV) : Env → Store → SOut := fun ρ S => (f ρ S).toS ρ fun v S1 => match tupOf v with
    | some vs => (match asgAs ts vs ρ S1 with
      | some (ρ', S2) => .next ρ' S2
      | none => .bad)
    | none => .bad
theorem s_asgA {ts : List AT} {es : List Expr} {kk : Nat} (hc : X.calm = true) (he : PE X e (tE X.K xC W f)) (hg : PGs X es (gATs X.K ts)) (hn : (assignEach es X.env).length = ts.length) (hst : (assignEach es X.env).findIdx? (·.1) = none)
    (hw : swappedStores [.Tuple es kk pos'] e X.env = pure none) : PS X (.Assign [.Tuple es kk pos'] e pos) (tS X.K xC W (asgAF ts f)) := by
  refine (ps_asg he (pg_tup hc hg hn hst) (by cases e <;> rfl) hw rfl).imp fun D σ H ⟨ρ, S, m, G, q⟩ => ?_
  refine ⟨ρ, S, m, G, OP.imp (fun v S1 m1 H1 e1 s1 q1 y ry => ?_) (OS.toS G q)⟩
  have G1 := G.on e1 s1
  cases v with
  | tup vs =>
    cases ry with
    | tup ht rs =>
      have q1 : OS X.K xC W m1 S1 H1 D (match asgAs ts vs ρ S1 with | some (ρ', S2) => .next ρ' S2 | none => .bad) := q1
      cases ha : asgAs ts vs ρ S1 with
      | none => rw [ha] at q1; exact q1.elim
      | some p =>
        obtain ⟨ρ', S2⟩ := p
        rw [ha] at q1
        exact ⟨_, _, rfl, ht, by rw [← rs.length]; exact asgAs_len ha, ρ, S1, m1, vs, ρ', S2, G1, rs, ha, fun σ' H' x1 G' => q1 m1 H' σ' x1 G'⟩
  | _ => exact q1.elim
end
end MK

set_option linter.all false
set_option autoImplicit false
set_option Elab.async false
set_option maxRecDepth 100000
set_option maxHeartbeats 4000000
/-! MkSls: xs[a:] = ys. -/
namespace L2
open PySem PySem.Spec PyProof.Rows PySem.SeqAt
section
variable {prog : Program} {w : World} {A : Around} {E : Value → Shared → Prop} {s : Shared}
theorem bounds_from {a n : Nat} (hac : a ≤ n) : sliceBounds (some (a : Int)) none none n = ((a : Int), (n : Int), 1) := by
  simp only [sliceBounds, Option.getD_none]
  have h1 : ¬ ((a : Int) < 0) := by omega
  simp only [h1, if_false, show (1 : Int) > 0 by decide, if_true]
  congr 1
  omega
/-- xs[a:] = ys: as the layer's rule for xs[a:c] = ys, without an upper bound -/
theorem setItem_from {l b sl : Addr} {items new : Array Value} {n n2 : Nat} {vl vu : Value} {a : Nat} {Q : Unit → Shared → Prop}
    (e : s.heap.get? l = some { cls := .type "list", data := .seq items n }) {ob : Obj} (e2 : s.heap.get? b = some ob) (hdb : ob.data = .seq new n2) (hb : s.heap.IsList b new) (hne : l ≠ b)
    (hs : s.heap.IsSliceOf sl vl vu .none) (pl : IsPart vl (some (a : Int))) (pu : IsPart vu none) (hac : a ≤ items.size)
    (hsz : items.size + new.size ≤ sizeLine) (h : Q () { s with heap := s.heap.update l (Obj.mapSeq fun xs => xs.extract 0 a ++ new ++ xs.extract items.size xs.size) }) :
    wpAny (model prog w) A (setItem (.ref l) (.ref sl) (.ref b)) Q E s := by
  have hl : s.heap.IsList l items := PySem.IsL.isList e
  obtain ⟨os, hos, hcs, hds⟩ := id hs
  have hTs : s.TypeIs (.ref sl) "slice" := ⟨os, hos, hcs⟩
  have hstep : ¬ ((rawPart none == rawInt 0) = true) := Bool.false_ne_true
  have hsame : Builtin.List.listSameRef (.ref l) (.ref b) = false := by
    unfold Builtin.List.listSameRef
    exact beq_eq_false_iff_ne.mpr hne
  have hmax : (max (a : Int) (items.size : Int)).toNat = items.size := by omega
  have hz' : ((fun xs : Array Value => xs.extract 0 a ++ new ++ xs.extract items.size xs.size) items).size ≤ sizeLine + 1 := by
    simp only [Array.size_append, Array.size_extract]
    omega
  unfold setItem
  try with_reducible refine wpAny_holding ?_
  first | refine wpAny_bind (wpAny_pure ?_) | skip
  refine wpAny_bind (wpAny_sequenceKey hl.typeIs (by decide) ?_)
  refine wpAny_bind (wpAny_callSpecial?_slot (name := Str.ofString "__setitem__") hl.typeIs slot_list_setitem
    (wpAny_call_entry slot_list_setitem hl.typeIs entry_list_setitem ?_ (args_list_setitem _ _ _)))
  show wpAny _ _ (Builtin.List.listSubscript? (.ref sl) >>= _) _ _ s
  refine wpAny_bind ?_
  unfold Builtin.List.listSubscript?
  refine wpAny_bind (wpAny_specialOf hTs slice_no_index ?_)
  simp only [Option.isNone_none, if_true]
  refine wpAny_pure ?_
  show wpAny _ _ (typeOf (.ref sl) >>= _) _ _ s
  refine wpAny_bind (wpAny_typeOf hTs ?_)
  first
    | rw [if_neg (by decide)]
    | refine PySem.W.KFB.if_not (by decide) ?_
  rw [listSliceParts_eq]
  refine wpAny_bind (wpAny_bind (wpAny_field hos hds (x := .none) rfl (wpAny_bind (wpAny_listPart .none ?_))))
  rw [if_neg hstep]
  refine wpAny_bind (wpAny_field hos hds (x := vl) rfl (wpAny_bind (wpAny_listPart pl ?_)))
  refine wpAny_bind (wpAny_field hos hds (x := vu) rfl (wpAny_bind (wpAny_listPart pu (wpAny_pure ?_))))
  first
    | simp only [hsame, Bool.false_eq_true, if_false]
    | refine PySem.W.KFB.if_not hsame ?_
    | (dsimp only
       rw [if_neg (by rw [hsame]; exact Bool.false_ne_true)])
  refine wpAny_bind (m := Builtin.List.listAllItems (.ref b) "must assign iterable to extended slice") ?_
  unfold Builtin.List.listAllItems
  refine wpAny_bind (wpAny_typeOf hb.typeIs ?_)
  first
    | refine PySem.W.KFB.if_so (by decide) ?_
    | rw [if_pos (by decide)]
    | simp only [beq_self_eq_true, Bool.true_or, if_true]
  unfold Builtin.List.listItems
  refine wpAny_bind (wpAny_seqItems e2 hdb (wpAny_pure ?_))
  refine wpAny_bind (wpAny_bind (wpAny_seqItems e rfl (wpAny_pure ?_)))
  refine wpAny_bind (wpAny_of_eq ((sliceIndices_raw (some (a : Int)) none none items.size (by simp)).trans (congrArg (pure : Int × Int × Int → Sem (Int × Int × Int)) (bounds_from hac))) ?_)
  show wpAny _ _ (if ((1 : Int) == 1) = true then _ else _) _ _ s
  rw [if_pos (by decide)]
  refine wpAny_bind (wpAny_rule ?_)
  first
    | simp only [notLongL hsz, Bool.false_eq_true, if_false]
    | refine PySem.W.KFB.if_not (notLongL hsz) ?_
  first | refine wpAny_bind (wpAny_pure ?_) | skip
  show wpAny _ _ (updateSeq l (fun xs => xs.extract 0 ((a : Int)).toNat ++ new ++ xs.extract (max (a : Int) (items.size : Int)).toNat xs.size) >>= _) _ _ s
  rw [hmax, Int.toNat_natCast]
  refine wpAny_bind (wpAny_updateSeq (hz := Nat.le_trans (Nat.le_add_right _ _) hsz) (_hz' := hz') e rfl ?_)
  refine wpAny_bind (wpAny_letGo ?_)
  first
    | exact wpAny_bind (wpAny_pure (wpAny_pure ⟨.none, rfl, wpAny_pure h⟩))
    | exact wpAny_pure ⟨.none, rfl, wpAny_pure h⟩
end
end L2
namespace MK
open PySem PySem.Spec PyProof.Rows L2
section
variable {X : Cx} {xC : Xs} {W : WX} {a e lo : Expr} {f g h : Env → Store → Out PV} {pos pos' p2 : Pos}
def slsF (f g h : Env → Store → Out PV) : Env → Store → SOut := fun ρ S => (h ρ S).toS ρ fun v S1 => (f ρ S1).toS ρ fun x S2 => ((g ρ S2).bind partI).toS ρ fun l S3 => match l with
    | some l => (match setSl S3 x l v with
      | some S4 => .next ρ S4
      | none => .bad)
    | none => .bad
theorem s_sls (ha : PE X a (tE X.K xC W f)) (hl : PE X lo (tE X.K xC W g)) (he : PE X e (tE X.K xC W h)) : PS X (.Assign [.Subscript a (.Slice (some lo) none none p2) pos'] e pos) (tS X.K xC W (slsF f g h)) := by
  refine ⟨fun pins s σ H D I ⟨ρ, S, m, G, q⟩ => ?_⟩
  refine wpAny_Assign_Subscript (thn (he.run pins s σ H (fun y H1 => ∃ v S1 m1, Ext m S.length H m1 S1.length H1 ∧ Good X.K ρ S1 m1 σ H1 ∧ VR X.K m1 S1.length H1 v y ∧ OS X.K xC W m1 S1 H1 D ((f ρ S1).toS ρ fun x S2 => ((g ρ S2).bind partI).toS ρ fun l S3 => match l with | some l => (match setSl S3 x l v with | some S4 => .next ρ S4 | none => .bad) | none => .bad)) I
    ⟨ρ, S, m, G, OP.imp (fun v S1 m1 H1 e1 s1 q1 y ry => ⟨v, S1, m1, e1, G.on e1 s1, ry, q1⟩) (OS.toS G q)⟩) fun r s1 ⟨y, H1, I1, rv, v, S1, m1, e1, G1, ry, q1⟩ => ?_) (sw_sub _ _ _ _ _ _)
  refine thn (ha.run pins s1 σ H1 (fun xv H2 => ∃ x S2 m2, Ext m1 S1.length H1 m2 S2.length H2 ∧ Good X.K ρ S2 m2 σ H2 ∧ VR X.K m2 S2.length H2 x xv ∧ OS X.K xC W m2 S2 H2 D (((g ρ S2).bind partI).toS ρ fun l S3 => match l with | some l => (match setSl S3 x l v with | some S4 => .next ρ S4 | none => .bad) | none => .bad)) I1
    ⟨ρ, S1, m1, G1, OP.imp (fun x S2 m2 H2 e2 s2 q2 xv rx => ⟨x, S2, m2, e2, G1.on e2 s2, rx, q2⟩) (OS.toS G1 q1)⟩) fun u s2 ⟨xv, H2, I2, ru, x, S2, m2, e2, G2, rx, q2⟩ => ?_
  have hst : PO X none tNoPart := po_none
  refine wpAny_Slice (thn ((o_some hl).run pins s2 σ H2 (fun l H3 => ∃ S3 m3, Ext m2 S2.length H2 m3 S3.length H3 ∧ Good X.K ρ S3 m3 σ H3 ∧ OS X.K xC W m3 S3 H3 D (match l with | some l => (match setSl S3 x l v with | some S4 => .next ρ S4 | none => .bad) | none => .bad)) I2
    ⟨ρ, S2, m2, G2, OP.imp (fun l S3 m3 H3 e3 s3 q3 => ⟨S3, m3, e3, G2.on e3 s3, q3⟩) (OS.toS G2 q2)⟩) fun vl s3 ⟨l, H3, I3, pl, S3, m3, e3, G3, q3⟩ => ?_)
  refine thn (hst.run pins s3 σ H3 (fun o H4 => o = none ∧ H4 = H3) I3 ⟨rfl, rfl⟩) fun vu s4 ⟨o, H4, I4, pu, eo, e4⟩ => ?_
  subst eo e4
  refine thn (hst.run pins s4 σ H4 (fun o H5 => o = none ∧ H5 = H4) I4 ⟨rfl, rfl⟩) fun vt s5 ⟨o, H5, I5, pt, eo, e5⟩ => ?_
  subst eo e5
  cases l with
  | none => exact q3.elim
  | some l =>
    cases pt
    have I6 : L2.Inv X pins σ H5 { s5 with heap := s5.heap.push { cls := .type "slice", data := .fields #[vl, vu, .none] } } := I5.kept (t' := s5.toks) fun b ob q => Heap.get?_push_of_some _ q
    have q3 : OS X.K xC W m3 S3 H5 D (match setSl S3 x l v with | some S4 => .next ρ S4 | none => .bad) := q3
    cases hs : setSl S3 x l v with
    | none => rw [hs] at q3; exact q3.elim
    | some S4 =>
      rw [hs] at q3
      have rx3 := VR.on G2.st e3 rx
      have ry3 := VR.on G2.st e3 (VR.on G1.st e2 ry)
      cases x with
      | ref n =>
        cases v with
        | lst zs =>
          have hs : (match S3[n]? with | some (.lst xs) => if 0 ≤ l ∧ l ≤ xs.length ∧ xs.length + zs.length ≤ SZ then some (S3.set n (.lst (xs.take l.toNat ++ zs))) else none | _ => none) = some S4 := hs
          cases rx3 with
          | ref hn =>
            cases ry3 with
            | @lst b zvs _ hb rz =>
              split at hs
              · rename_i xs hS
                split at hs
                · rename_i hc
                  cases hs
                  obtain ⟨c1, c2, c3⟩ := hc
                  obtain ⟨xvs, d1, rxs⟩ := G3.st.cell n _ hS
                  obtain rfl : u = Value.ref (m3.at_ n) := ru
                  obtain rfl : r = Value.ref b := rv
                  obtain ⟨z, its, n1, r1, hl1, e1'⟩ := I6.lstM d1
                  obtain ⟨its2, r2, pln, hz2⟩ := I6.list hb.sq
                  have hL := pln.isList
                  obtain ⟨ob, n2, ho2, hc2, hdn2, hd2⟩ := pln
                  have lx := rxs.length
                  have lz := rz.length
                  have l2 := r2.length
                  have l1 := r1.length
                  have hne : m3.at_ n ≠ b := by
                    intro e
                    rcases hb with ⟨hb, hz⟩ | ⟨ob', _, _, hk, _⟩
                    · exact hz (by rw [← e]; exact G3.st.inZ n hn)
                    · have hk' := (I6.bs _ _ (I6.ok.mod.kin _ _ hk)).2
                      rw [← e, d1] at hk'
                      cases hk'
                  obtain ⟨lo', rfl⟩ := Int.eq_ofNat_of_zero_le c1
                  refine setItem_from (a := lo') e1' ho2 hd2 hL hne (Heap.IsSliceOf.new _ vl vu .none) pl pu (by rw [List.size_toArray]; omega) (by rw [List.size_toArray, List.size_toArray, ← SZ_eq]; omega) ?_
                  have r4 : VRs X.K m3 S3.length H5 (xs.take lo' ++ zs) (xvs.take lo' ++ zvs) := (rxs.take _).append rz
                  have ex : Ext m3 S3.length H5 m3 (S3.set n (Cell.lst (xs.take lo' ++ zs))).length (upd H5 (m3.at_ n) (.lst (xvs.take lo' ++ zvs))) := by
                    rw [List.length_set]
                    exact Ext.write G3.st hn
                  refine ⟨σ, _, ?_, q3 m3 (upd H5 (m3.at_ n) (.lst (xvs.take lo' ++ zvs))) σ ex (G3.on ex (G3.st.write hn r4))⟩
                  refine I6.lset (its' := its.take lo' ++ its2) (t' := s5.toks) d1 e1' ?_ (Vals.append (r1.take _) r2) ?_
                  · have := splice_eq its its2 lo' its.length
                    rw [List.drop_length, List.append_nil] at this
                    rw [← this]
                    rfl
                  · rw [List.length_append, List.length_take, ← SZ_eq]
                    omega
                · cases hs
              · cases hs
        | _ => cases hs
      | _ => cases v <;> cases hs
end
end MK

set_option linter.all false
set_option autoImplicit false
set_option Elab.async false
set_option maxRecDepth 100000
set_option maxHeartbeats 4000000
/-! MkEnum: enumerate over what nobody changes: a list, a tuple, a text. -/
namespace MK
open PySem PySem.Spec PyProof.Rows L2
open AutoSeq1 (wpAny_loadPart')

set_option maxHeartbeats 8000000 in
theorem meets_enum_new {v : Value} {o : Obj} {H : Heap → Prop} (B : Begins v o H) :
    Meets (Builtin.«enumerate.__new__» ⟨[.type "enumerate", v], []⟩) (fun _ R s => H s.heap ∧
      R (.ok (.ret (.ref (s.heap.push o).objs.size))) { s with heap := (s.heap.push o).push { cls := .type "enumerate", data := .fields #[.none, .bool false, .ref s.heap.objs.size, rawInt 0, .none, .none] } }) :=
  .of_wp fun prog w A R s h => by
    obtain ⟨hp, g, d, tk, os⟩ := s; obtain ⟨h1, h⟩ := h
    have hsub := sub_enumerate
    have q1 : ∀ {A' : Around} {E : Value → Shared → Prop} {Q : Value → Shared → Prop}, Q (.ref hp.objs.size) ⟨hp.push o, g, d, tk, os⟩ → wpAny (model prog w) A' (pyIter v) Q E ⟨hp, g, d, tk, os⟩ :=
      fun q => B.iter prog w _ _ ⟨hp, g, d, tk, os⟩ _ h1 q
    wp_walk using q1
    refine wpAny_stack_any fun st => wpAny_pure ?_
    split
    · rename_i c _ _ _ _ _
      cases (c == Value.type "enumerate")
      · wp_walk using q1
        exact ⟨_, rfl, h⟩
      · wp_walk using q1
        exact ⟨_, rfl, h⟩
    · wp_walk using q1
      exact ⟨_, rfl, h⟩
theorem enum_begin1 {prog : Program} {w : World} {A : Around} {E : Value → Shared → Prop} {s : Shared} {v : Value} {o : Obj} {H : Heap → Prop} {Q : Value → Shared → Prop} (B : Begins v o H) (h1 : H s.heap)
    (h : ∀ h', IsEnum h' (s.heap.objs.size + 1) s.heap.objs.size 0 .none → h'.get? s.heap.objs.size = some o → h'.objs.size = s.heap.objs.size + 2 →
      (∀ b o, s.heap.get? b = some o → h'.get? b = some o) → Q (.ref (s.heap.objs.size + 1)) { s with heap := h' }) :
    wpAny (model prog w) A (call (.type "enumerate") [v]) Q E s := by
  refine callType_new F.called_enumerate (by decide) (F.typeCall_enumerate_1 _) (F.newCall_enumerate_1 _) (fun obj => F.args_object_init_2 obj _) F.entry_enumerate_new
    (meets_enum_new B) ⟨h1, ?_⟩
  have hz : (s.heap.push o).objs.size = s.heap.objs.size + 1 := Heap.size_push ..
  show _ ∧ _
  rw [hz]
  have he : IsEnum ((s.heap.push o).push { cls := .type "enumerate", data := .fields #[.none, .bool false, .ref s.heap.objs.size, rawInt 0, .none, .none] }) (s.heap.objs.size + 1) s.heap.objs.size 0 .none := by
    have := Heap.get?_push_size (s.heap.push o) (o := { cls := .type "enumerate", data := .fields #[.none, .bool false, .ref s.heap.objs.size, rawInt 0, .none, .none] }) rfl
    rw [hz] at this; exact this
  refine ⟨⟨_, he, rfl⟩, h _ he (Heap.get?_push_of_some _ (Heap.get?_push_size _ B.free)) (by rw [Heap.size_push, hz]) fun b o x => Heap.get?_push_of_some _ (Heap.get?_push_of_some _ x)⟩

/-- pairs of a count and what src tells -/
def Ied (n : Nat) (src : Nat → Hp → V → Prop) (has : Hp → Prop) : L2.It :=
  ⟨fun i H => has H ∧ i < n, fun i H v H' => ∃ T x, v = .ref T ∧ H T = none ∧ H' = upd H T (.tup [.int (i : Nat), x]) ∧ src i H x, fun i H => has H ∧ n ≤ i⟩
theorem turn_enumS {P : Program} {w : World} {K : PySem.W.Frag} {elts : List Expr} {kk : Nat} {tpos : Pos} (e it : Addr) (x : Str) (t : Tok) :
    Turn P w K (.Tuple elts kk tpos) (Ied x.cps.size (fun i _ v => ∃ c, x.cps[i]? = some c ∧ v = .str ⟨#[c]⟩) (fun _ => True)) [e, it] e (fun i h => (∃ old, IsEnum h e it ((i : Nat) : Int) old) ∧ h.IsStrIter it (strIterType x) x t i ∧ e ≠ it) where
  mem := by simp
  obj := fun i h st b hb => by
    obtain ⟨⟨old, he⟩, ⟨o, ho, hc, hd⟩, _⟩ := st
    have e' : b = e ∨ b = it := by simpa using hb
    rcases e' with z | z
    · rw [z]; exact ⟨_, he, fun v q => nomatch q⟩
    · rw [z]; exact ⟨o, ho, fun v q => by rw [hd] at q; cases q⟩
  keep := fun i h h' st k => let ⟨⟨old, he⟩, ⟨o, ho, r⟩, hne⟩ := st; ⟨⟨old, k e (by simp) _ he⟩, ⟨o, k it (by simp) o ho, r⟩, hne⟩
  item := by
    intro X hP hw hK hc i pins s σ H E I hf st hg
    subst hP hw hK
    obtain ⟨⟨old, he⟩, hit, hne⟩ := st
    have hel : e < s.heap.objs.size := Heap.lt_size he
    have hil : it < s.heap.objs.size := by obtain ⟨_, q, _⟩ := hit; exact Heap.lt_size q
    refine wpAny_pyNext_enum_itemC (Draws.text (A := X.A.in1) (I.ok.hd hc) it x t) he hit hg.2 hne (by simpa using hne) fun u h' tk hP ho hit' hT hsz hk => ?_
    obtain ⟨c, uu, hcx, rfl⟩ := hP
    refine ⟨_, rfl, wpAny_letOwnedTupleGo_enum (s := { s with heap := h', toks := tk + 1 }) ho fun h'' he' sb => ?_⟩
    have hT2 : h''.get? s.heap.objs.size = some { cls := .type "tuple", data := .seq #[.int i tk, .str ⟨#[c]⟩ uu] } := (sb.2 _ (Nat.ne_of_gt hel)).trans hT
    have new : ObjOk X.prog X.w (upd H s.heap.objs.size (.tup [.int (i : Nat), .str ⟨#[c]⟩])) h'' s.heap.objs.size (.tup [.int (i : Nat), .str ⟨#[c]⟩]) :=
      ⟨by show 2 ≤ sizeLine; decide, [.int i tk, .str ⟨#[c]⟩ uu], .cons ⟨_, rfl⟩ (.cons ⟨uu, rfl⟩ .nil), ⟨_, hT2, rfl, _, rfl⟩⟩
    have I1 : Inv X pins σ (upd H s.heap.objs.size (.tup [.int (i : Nat), .str ⟨#[c]⟩])) { s with heap := h'', toks := tk + 1 } :=
      I.turnedNew (ch := [e, it]) (fun b ob hb q => (sb.2 b (fun z => hb (by simp [z]))).trans (hk b ob (fun z => hb (by simp [z])) (fun z => hb (by simp [z])) q)) hf (Nat.le_refl _) new
    refine ⟨.ref s.heap.objs.size, _, I1, rfl, ⟨_, .str ⟨#[c]⟩, rfl, I.hok.fresh (Nat.le_refl _), rfl, ⟨c, hcx, rfl⟩⟩, ⟨⟨.str ⟨#[c]⟩ uu, ?_⟩, ?_, hne⟩, fun b hb => ?_⟩
    · have e1 : ((i + 1 : Nat) : Int) = (i : Int) + 1 := by omega
      rw [e1]; exact he'
    · obtain ⟨o, ho2, r2⟩ := hit'
      exact ⟨o, (sb.2 it (Ne.symm hne)).trans ho2, r2⟩
    · have hb' : b < s.heap.objs.size := by
        have e' : b = e ∨ b = it := by simpa using hb
        rcases e' with z | z
        · rw [z]; exact hel
        · rw [z]; exact hil
      rw [upd_ne (Nat.ne_of_lt hb')]
      exact (hf b hb).1
  done := by
    intro X hP hw hK hc i pins s σ H E I hf st hg
    subst hP hw hK
    obtain ⟨⟨old, he⟩, hit, hne⟩ := st
    obtain ⟨f0, f1, f2, f3, f4, f5⟩ := hf it (by simp)
    obtain ⟨-, hn⟩ := hg
    have hx : x.cps[i]? = none := Array.getElem?_eq_none hn
    have D : Draws X.prog X.w X.A.in1 it [it] i (fun _ _ => True) (fun j h => j = i ∧ h.IsStrIter it (strIterType x) x t i) := ⟨fun j h st => by obtain ⟨_, o, q, _⟩ := st; exact ⟨o, q⟩, fun j h h' st k => ⟨st.1, by obtain ⟨_, o, q, r⟩ := st; exact ⟨o, k it (by simp) o q, r⟩⟩,
      fun j s Q E hj st => absurd (st.1 ▸ hj) (Nat.lt_irrefl _), fun s Q E st q => by
        have st2 := st.2
        cases ha : x.cps.all (· < 128)
        · have e1 : strIterType x = "str_iterator" := by simp only [strIterType, ha, Bool.false_eq_true, if_false]
          rw [e1] at st2
          exact wpAny_nextOf_wide_end (I.ok.hd hc) st2 hx q
        · have e1 : strIterType x = "str_ascii_iterator" := by simp only [strIterType, ha, if_true]
          rw [e1] at st2
          exact wpAny_nextOf_ascii_end (I.ok.hd hc) st2 hx q⟩
    exact wpAny_pyNext_enum_endD D he ⟨rfl, hit⟩ fun h' eb => ⟨rfl, I.turned (t' := s.toks) (fun b o hb q => eb b o hb q) f0 f1 f3 f4 f5⟩
  self := fun A i s Q E st h => let ⟨⟨_, he⟩, _⟩ := st; wpAny_pyIter_enum he h

theorem turn_enumT {P : Program} {w : World} {K : PySem.W.Frag} {elts : List Expr} {kk : Nat} {tpos : Pos} (a e it : Addr) (n : Nat) :
    Turn P w K (.Tuple elts kk tpos) (Ied n (fun i H v => ∀ xs, SqT K H a xs → xs[i]? = some v) (fun H => ∃ xs, SqT K H a xs ∧ xs.length = n)) [e, it] e (fun i h => (∃ old, IsEnum h e it ((i : Nat) : Int) old) ∧ h.IsTupleIter it a i ∧ e ≠ it) where
  mem := by simp
  obj := fun i h st b hb => by
    obtain ⟨⟨old, he⟩, ⟨o, ho, hc, hd⟩, _⟩ := st
    have e' : b = e ∨ b = it := by simpa using hb
    rcases e' with z | z
    · rw [z]; exact ⟨_, he, fun v q => nomatch q⟩
    · rw [z]; exact ⟨o, ho, fun v q => by rw [hd] at q; cases q⟩
  keep := fun i h h' st k => let ⟨⟨old, he⟩, hi, hne⟩ := st; ⟨⟨old, k e (by simp) _ he⟩, hi.at fun o q => k it (by simp) o q, hne⟩
  item := by
    intro X hP hw hK hc i pins s σ H E I hf st hg
    subst hP hw hK
    obtain ⟨⟨old, he⟩, hit, hne⟩ := st
    obtain ⟨⟨xs, hq, hn⟩, hlt⟩ := hg
    obtain ⟨its, rv, p, hz⟩ := I.tuple hq
    have hel : e < s.heap.objs.size := Heap.lt_size he
    have hil : it < s.heap.objs.size := by obtain ⟨_, q, _⟩ := hit; exact Heap.lt_size q
    have p : s.heap.IsTuple a its.toArray := p
    have hai : a ≠ it := fun z => by
      obtain ⟨o1, q1, c1, _⟩ := p
      obtain ⟨o2, q2, c2, _⟩ := hit
      rw [z, q2] at q1
      cases q1
      rw [c2] at c1
      exact absurd c1 (by decide)
    have hea : e ≠ a := fun z => by
      obtain ⟨o1, q1, c1, _⟩ := p
      rw [← z, he] at q1
      cases q1
      have c1 : Value.type "enumerate" = Value.type "tuple" := c1
      exact absurd c1 (by decide)
    have hl := rv.length
    refine wpAny_pyNext_enum_itemC (Draws.tuple (A := X.A.in1) (I.ok.hd hc) it a hai its.toArray) he ⟨hit, p⟩ (by simp; omega) hne (by simp [hne, hea]) fun u h' tk hP ho hit' hT hsz hk => ?_
    obtain ⟨hit', p'⟩ := hit'
    obtain ⟨x, hx, ru⟩ : ∃ x, xs[i]? = some x ∧ RelV x u := by
      have hx : i < xs.length := by omega
      obtain ⟨u', hu', ru⟩ := rv.get (List.getElem?_eq_getElem hx)
      have : its[i]? = some u := by simpa using hP
      rw [this] at hu'
      cases hu'
      exact ⟨_, List.getElem?_eq_getElem hx, ru⟩
    refine ⟨_, rfl, wpAny_letOwnedTupleGo_enum (s := { s with heap := h', toks := tk + 1 }) ho fun h'' he' sb => ?_⟩
    have hT2 : h''.get? s.heap.objs.size = some { cls := .type "tuple", data := .seq #[.int i tk, u] } := (sb.2 _ (Nat.ne_of_gt hel)).trans hT
    have new : ObjOk X.prog X.w (upd H s.heap.objs.size (.tup [.int (i : Nat), x])) h'' s.heap.objs.size (.tup [.int (i : Nat), x]) :=
      ⟨by show 2 ≤ sizeLine; decide, [.int i tk, u], .cons ⟨_, rfl⟩ (.cons ru .nil), ⟨_, hT2, rfl, _, rfl⟩⟩
    have I1 : Inv X pins σ (upd H s.heap.objs.size (.tup [.int (i : Nat), x])) { s with heap := h'', toks := tk + 1 } :=
      I.turnedNew (ch := [e, it]) (fun b ob hb q => (sb.2 b (fun z => hb (by simp [z]))).trans (hk b ob (fun z => hb (by simp [z])) (fun z => hb (by simp [z])) q)) hf (Nat.le_refl _) new
    refine ⟨.ref s.heap.objs.size, _, I1, rfl, ⟨_, x, rfl, I.hok.fresh (Nat.le_refl _), rfl, fun ys hy => by rw [I.tuple_inj hy hq]; exact hx⟩, ⟨⟨u, ?_⟩, hit'.at fun o q => (sb.2 it (Ne.symm hne)).trans q, hne⟩, fun b hb => ?_⟩
    · have e1 : ((i + 1 : Nat) : Int) = (i : Int) + 1 := by omega
      rw [e1]; exact he'
    · have hb' : b < s.heap.objs.size := by
        have e' : b = e ∨ b = it := by simpa using hb
        rcases e' with z | z
        · rw [z]; exact hel
        · rw [z]; exact hil
      rw [upd_ne (Nat.ne_of_lt hb')]
      exact (hf b hb).1
  done := by
    intro X hP hw hK hc i pins s σ H E I hf st hg
    subst hP hw hK
    obtain ⟨⟨old, he⟩, hit, hne⟩ := st
    obtain ⟨f0, f1, f2, f3, f4, f5⟩ := hf it (by simp)
    obtain ⟨⟨xs, hq, hn⟩, hle⟩ := hg
    obtain ⟨its, rv, p, hz⟩ := I.tuple hq
    have hl := rv.length
    have D : Draws X.prog X.w X.A.in1 it [it, a] i (fun _ _ => True) (fun j h => j = i ∧ h.IsTupleIter it a i ∧ h.IsTuple a its.toArray) := ⟨fun j h st => by obtain ⟨_, ⟨o, q, _⟩, _⟩ := st; exact ⟨o, q⟩, fun j h h' st k => ⟨st.1, st.2.1.at fun o e => k it (by simp) o e, st.2.2.at fun o e => k a (by simp) o e⟩,
      fun j s Q E hj st => absurd (st.1 ▸ hj) (Nat.lt_irrefl _), fun s Q E st q => wpAny_nextOf_tuple_end (I.ok.hd hc) st.2.1 st.2.2 (by simp; omega) q⟩
    exact wpAny_pyNext_enum_endD D he ⟨rfl, hit, p⟩ fun h' eb => ⟨rfl, I.turned (t' := s.toks) (fun b o hb q => eb b o hb q) f0 f1 f3 f4 f5⟩
  self := fun A i s Q E st h => let ⟨⟨_, he⟩, _⟩ := st; wpAny_pyIter_enum he h

theorem enumFrom_len : ∀ (n : Nat) (xs : List PV), (enumFrom n xs).length = xs.length
  | _, [] => rfl
  | n, x :: xs => by rw [enumFrom, List.length_cons, List.length_cons, enumFrom_len]
theorem enumFrom_get : ∀ (n : Nat) (xs : List PV) (i : Nat), (enumFrom n xs)[i]? = (xs[i]?).map fun x => .tup [.int ((n + i : Nat) : Int), x]
  | _, [], i => by rw [enumFrom]; rfl
  | n, x :: xs, 0 => rfl
  | n, x :: xs, i + 1 => by
    rw [enumFrom, List.getElem?_cons_succ, List.getElem?_cons_succ, enumFrom_get]
    rw [show n + 1 + i = n + (i + 1) from by omega]
theorem walks_enum {K : PySem.W.Frag} {J : L2.It} {xs : List PV} {S : Store} {m : Mp} {H : Hp}
    (h : ∀ S' m' H', Ext m S.length H m' S'.length H' → StoreR K S' m' H' → (∀ i x, xs[i]? = some x → J.go i H' ∧ ∀ v H2, J.yld i H' v H2 → ∃ T u, v = .ref T ∧ H' T = none ∧ H2 = upd H' T (.tup [.int (i : Nat), u]) ∧ VR K m' S'.length H' x u) ∧ ∀ i, xs.length ≤ i → J.stop i H') :
    WalksAll K J (enumFrom 0 xs, none) S m H := by
  intro S' m' H' ex st' kp
  obtain ⟨h1, h2⟩ := h S' m' H' ex st'
  refine ⟨fun i x hx => ?_, fun i hi => h2 i (by rw [← enumFrom_len 0 xs]; exact hi)⟩
  have hx : (enumFrom 0 xs)[i]? = some x := hx
  rw [enumFrom_get] at hx
  obtain ⟨y, hy, rfl⟩ := Option.map_eq_some_iff.mp hx
  obtain ⟨hg, hyld⟩ := h1 i y hy
  refine ⟨hg, fun v H2 hv => ?_⟩
  obtain ⟨T, u, rfl, hT, rfl, r⟩ := hyld v H2 hv
  refine ⟨Ext.push st' hT, st'.push hT, ?_⟩
  rw [show 0 + i = i from by omega]
  exact VR.tupNew st' hT (.cons (.int _) (.cons r .nil))

theorem fp_new {X : Cx} {pins : List (Addr × Obj)} {σ : L2.St} {H : Hp} {s : Shared} (I : Inv X pins σ H s) (b : Addr) (hb : b ∈ [s.heap.objs.size + 1, s.heap.objs.size]) : FpOk X pins H b := by
  have e' : b = s.heap.objs.size + 1 ∨ b = s.heap.objs.size := by simpa using hb
  have hle : s.heap.objs.size ≤ b := by
    rcases e' with z | z
    · rw [z]; exact Nat.le_add_right _ _
    · rw [z]; exact Nat.le_refl _
  exact I.fpOk hle (I.hok.fresh hle)
section
variable {X : Cx} {xC : Xs} {W : WX} {e : Expr} {f : Env → Store → Out PV} {p pos tpos : Pos} {elts : List Expr} {kk : Nat}
/-- enumerate(e) -/
theorem i_enum {x : Str} (hx : x = ("enumerate" : Str)) (hg : Gl X x) (hm : X.mg x = none) (he : PE X e (tE X.K xC W f)) (hs : starEach [e] X.env = (false, eval e X.env) :: starEach [] X.env) :
    PI X (.Tuple elts kk tpos) (.Call (.Name x p) [e] [] pos) (tIt X.K xC W fun ρ S => (f ρ S).bind fun v S1 => lift S1 ((walkOf S1 v).bind enumW)) := by
  subst hx
  refine ⟨fun pins s σ H R I h => ?_⟩
  obtain ⟨ρ, S, m, G, q⟩ := h
  have ha : PA X [e] _ := a_cons (g := fun _ S => .ok [] S) he a_nil hs
  refine Call_ (ld_blt I hg hm boot_enumerate (PyProof.Rows.callWith_type1 (thn (ha.run pos pins s σ H (fun xs H1 => ∃ v x S1 m1, xs = [x] ∧ StoreR X.K S1 m1 H1 ∧ VR X.K m1 S1.length H1 v x ∧ OP X.K xC W σ m1 S1 H1 (fun w S' m' H' => ∀ J, WalksAll X.K J w S' m' H' → keptOf w S' = true → R J H') (lift S1 ((walkOf S1 v).bind enumW))) I ⟨ρ, S, m, G, ?_⟩) fun us s1 ⟨vs, H1, I1, r1, q1⟩ => ?_) hs rfl))
  · have q2 := OP.bind q
    unfold consF
    dsimp only
    generalize f ρ S = o at q2
    cases o with
    | ok v S1 =>
      intro m1 H1 e1 s1 xs r
      cases r with
      | cons rv rr =>
        cases rr
        exact ⟨v, _, S1, m1, rfl, s1, rv, q2 m1 H1 e1 s1⟩
    | exc c as S1 => exact q2
    | bad => exact q2
  obtain ⟨v, xv, S1, m1, ex, st, r, q1⟩ := q1
  subst ex
  obtain ⟨w, hw, q2⟩ := q1.lift
  have fin := q2 m1 H1 (Ext.refl st) st
  cases r1 with
  | cons ru rr =>
    cases rr
    cases r with
    | str z hz =>
      obtain ⟨t, rfl⟩ := ru
      cases hw
      refine call_enumerate_str fun h' hE hit hsz hk => wpAny_pyIter_enum hE ?_
      have I2 : Inv X pins σ H1 { s1 with heap := h' } := I1.kept (t' := s1.toks) hk
      refine ⟨s1.heap.objs.size + 1, [s1.heap.objs.size + 1, s1.heap.objs.size], _, _, H1, rfl, I2, turn_enumS (s1.heap.objs.size + 1) s1.heap.objs.size _ t, ⟨⟨.none, hE⟩, hit, Nat.succ_ne_self _⟩, fun b hb => ?_, fin _ (walks_enum fun S' m' H' ex st' => ?_) rfl⟩
      · exact fp_new I1 b hb
      · have hz2 : z.length = (strV z).cps.size := (strV_length z).symm
        refine ⟨fun i x hx => ?_, fun i hi => ⟨trivial, ?_⟩⟩
        · rw [List.getElem?_map] at hx
          obtain ⟨c, hc, rfl⟩ := Option.map_eq_some_iff.mp hx
          have hi : i < z.length := (List.getElem?_eq_some_iff.mp hc).1
          refine ⟨⟨trivial, by rw [← hz2]; exact hi⟩, fun v H2 hy => ?_⟩
          obtain ⟨T, u, rfl, hT, rfl, c', hc', rfl⟩ := hy
          have e : (strV z).cps[i]? = z[i]? := by show z.toArray[i]? = _; simp
          rw [e, hc] at hc'
          cases hc'
          exact ⟨T, _, rfl, hT, rfl, .str [c] (hz.one (List.mem_of_getElem? hc))⟩
        · rw [List.length_map] at hi
          rw [← hz2]; exact hi
    | @tup a xs vs ht rs =>
      cases ru
      cases hw
      obtain ⟨its, rv, p, hz⟩ := I1.tuple ht
      have p : s1.heap.IsTuple a its.toArray := p
      refine enum_begin1 (begins_tuple a its.toArray) p fun h' hE hit hsz hk => wpAny_pyIter_enum hE ?_
      have I2 : Inv X pins σ H1 { s1 with heap := h' } := I1.kept (t' := s1.toks) hk
      refine ⟨s1.heap.objs.size + 1, [s1.heap.objs.size + 1, s1.heap.objs.size], _, _, H1, rfl, I2, turn_enumT a (s1.heap.objs.size + 1) s1.heap.objs.size xs.length, ⟨⟨.none, hE⟩, ⟨_, hit, rfl, rfl⟩, Nat.succ_ne_self _⟩, fun b hb => fp_new I1 b hb, fin _ (walks_enum fun S' m' H' ex st' => ?_) rfl⟩
      have ht' := SqT.on st ex ht
      have rs' := VRs.on st ex rs
      refine ⟨fun i x hx => ?_, fun i hi => ⟨⟨xs, ht', rfl⟩, by rw [← rs.length]; exact hi⟩⟩
      obtain ⟨v, hv, rv'⟩ := rs'.get hx
      refine ⟨⟨⟨xs, ht', rfl⟩, (List.getElem?_eq_some_iff.mp hv).1⟩, fun v' H2 hy => ?_⟩
      obtain ⟨T, u, rfl, hT, rfl, hu⟩ := hy
      have := hu xs ht'
      rw [hv] at this
      cases this
      exact ⟨T, _, rfl, hT, rfl, rv'⟩
    | @lst a xs vs hl rs =>
      cases ru
      cases hw
      obtain ⟨its, rv, p, hz⟩ := I1.list hl.sq
      refine call_enumerate_list p.isList fun h' hE hit hsz hk => wpAny_pyIter_enum hE ?_
      have I2 : Inv X pins σ H1 { s1 with heap := h' } := I1.kept (t' := s1.toks) hk
      refine ⟨s1.heap.objs.size + 1, [s1.heap.objs.size + 1, s1.heap.objs.size], _, _, H1, rfl, I2, turn_enum a (s1.heap.objs.size + 1) s1.heap.objs.size, ⟨⟨.none, hE⟩, hit, Nat.succ_ne_self _⟩, fun b hb => fp_new I1 b hb, fin _ (walks_enum fun S' m' H' ex st' => ?_) rfl⟩
      have ht' := (LstR.on ex hl).sq
      have rs' := VRs.on st ex rs
      refine ⟨fun i x hx => ?_, fun i hi => ⟨xs, ht', by rw [← rs.length]; exact hi⟩⟩
      obtain ⟨v, hv, rv'⟩ := rs'.get hx
      refine ⟨⟨xs, v, ht', hv⟩, fun v' H2 hy => ?_⟩
      obtain ⟨T, u, rfl, hT, rfl, hu⟩ := hy
      have := hu xs ht'
      rw [hv] at this
      cases this
      exact ⟨T, _, rfl, hT, rfl, rv'⟩
    | @ref k hk =>
      have hw : ((match S1[k]? with | some (.lst xs) => some (xs, some k) | _ => none).bind enumW) = some w := hw
      split at hw
      · cases hw
      · cases hw
    | non => cases hw
    | bl _ => cases hw
    | int _ => cases hw
    | ty _ => cases hw
end
end MK

set_option linter.all false
set_option autoImplicit false
set_option Elab.async false
set_option maxRecDepth 100000
set_option maxHeartbeats 8000000
/-! MkChk: the core program against the text; what it comes to is what the text does. -/
namespace MK
open PySem PySem.Spec PyProof.Rows L2

/-- the names of a program's top -/
structure Tab where
  fns : List (Str × Nat)
  gls : List (Str × PV)
  exs : List (Str × Option Str)
  blt : List Str
  subs : List (List Nat) := []
  gds : List (Str × List (List Nat × Int)) := []
  cls : List (List Nat) := []
  mets : List (List Nat × List Nat × Nat) := []
  flds : List (List Nat × List Nat) := []
/-- __init__ -/
def initN : List Nat := [95, 95, 105, 110, 105, 116, 95, 95]
def npB (fns : List (Str × Nat)) (f n : Nat) : Bool := match fns[f]? with
  | some (_, np) => np == n
  | none => false
def inOp (neg : Bool) : CmpOp := if neg then .NotIn else .In

def nameOk (x : Str) : Bool := !(x == ("__debug__" : Str)) && !(x == ("__classdict__" : Str))
def globB (sc : Scope) (x : Str) : Bool := decide (sc.names.lookup x = some .globalImplicit) && !(x == ("__debug__" : Str))
def visB (sc : Scope) (x : Str) : Bool := decide (sc.names.lookup x = some .local) || (decide (sc.names.lookup x = some .cell) || decide (sc.names.lookup x = some .free))
def locB (sc : Scope) (x : Str) : Bool := decide (sc.names.lookup x = some .local) || decide (sc.names.lookup x = some .cell)
def okSb (s : List Nat) : Bool := decide (s.length ≤ SZ) && s.all fun c => decide (c < 1114112)
def litOk : PV → Const → Bool
  | .non, .none => true
  | .bl b, .bool c => b == c
  | .int i, .int j => i == j
  | .str s, .str z => decide (z = strV s) && okSb s
  | _, _ => false
/-- not a call of super() -/
def plainRecv : Expr → Bool
  | .Call (.Name id _) _ _ _ => !(id == ("super" : Str))
  | _ => true
/-- a new scope within another -/
def ownOf (N : List Str) (vs : List Nat) : List (Str × Nat) := vs.map fun i => ((N[i]?).getD ("" : Str), i)
theorem ownOf_snd (N : List Str) (vs : List Nat) : (ownOf N vs).map (·.2) = vs := by
  unfold ownOf
  rw [List.map_map]
  conv => rhs; rw [← List.map_id vs]
  exact List.map_congr_left fun _ _ => rfl

section
variable (T : Tab) (N : List Str)
mutual
def chkTG (fn : Str → Bool) : TG → Scope → Expr → Bool
  | .nm i, sc, .Name x _ => decide (N[i]? = some x) && locB sc x && (fn x || decide (sc.names.lookup x = some .local))
  | .tp ts, sc, .Tuple es _ _ => chkTGs fn ts sc es
  | _, _, _ => false
def chkTGs (fn : Str → Bool) : List TG → Scope → List Expr → Bool
  | [], _, [] => true
  | t :: ts, sc, e :: es => chkTG fn t sc e && chkTGs fn ts sc es
  | _, _, _ => false
end
def blkFn (scope : Scope) (x : Str) : Bool := scope.names.lookup x == some .cell
mutual
def chkE : C → Scope → Expr → Bool
  | .var i, sc, .Name x _ => decide (N[i]? = some x) && visB sc x && nameOk x
  | .lit v, _, .Constant c _ _ => litOk v c
  | .gl v, sc, .Name x _ => globB sc x && decide ((x, v) ∈ T.gls)
  | .tup es, sc, .Tuple es' _ _ => chkEs es sc es'
  | .lst _ es, sc, .List es' _ => chkEs es sc es'
  | .bin op a b, sc, .BinOp l o r _ => decide (o = opOf op) && chkE a sc l && chkE b sc r
  | .neg a, sc, .UnaryOp .USub x _ => chkE a sc x
  | .cmp op a b, sc, .Compare l [o] [r] _ => decide (o = cmpOf op) && chkE a sc l && chkE b sc r
  | .cmp2 p q a b c, sc, .Compare l [o, o'] [r, r'] _ => decide (o = cmpOf p) && decide (o' = cmpOf q) && chkE a sc l && chkE b sc r && chkE c sc r'
  | .and es, sc, .BoolOp .And es' _ => !es.isEmpty && chkEs es sc es'
  | .or es, sc, .BoolOp .Or es' _ => !es.isEmpty && chkEs es sc es'
  | .not a, sc, .UnaryOp .Not x _ => chkE a sc x
  | .ite t a b, sc, .IfExp t' a' b' _ => chkE t sc t' && chkE a sc a' && chkE b sc b'
  | .sl l h a lo hi, sc, .Subscript x (.Slice lo' hi' none _) _ => chkE a sc x && (match l, lo' with | true, some e => chkE lo sc e | false, none => true | _, _ => false) && (match h, hi' with | true, some e => chkE hi sc e | false, none => true | _, _ => false)
  | .ix a b, sc, .Subscript l r _ => chkE a sc l && chkE b sc r
  | .call f es, sc, .Call (.Name x _) es' [] _ => globB sc x && (decide (T.fns[f]? = some (x, es.length)) && decide (x ≠ ("" : Str))) && !es.isEmpty && chkEs es sc es'
  | .bi b es, sc, .Call (.Name x _) es' [] _ => globB sc x && decide (x = (biName b : Str)) && decide (x ∈ T.blt) && !es.isEmpty && chkEs es sc es'
  | .bm m o es, sc, .Call (.Attribute o' x ap) es' [] cp => decide (x = (bmName m : Str)) && (ap.endLine == cp.line) && plainRecv o' && chkE o sc o' && !es.isEmpty && decide (es.length < 29) && chkEs es sc es'
  | .isi a t, sc, .Call (.Name x _) [a', .Name y _] [] _ => globB sc x && decide (x = ("isinstance" : Str)) && decide (x ∈ T.blt) && globB sc y && decide (y = (tyName t : Str)) && decide (y ∈ T.blt) && chkE a sc a'
  | .lc _ vs tg it cond elt, sc, .ListComp elt' [⟨tg', it', ifs, 0⟩] scope _ => chkIt it sc tg' it' && blkC N sc scope (ownOf N vs) && chkTG N (blkFn scope) tg (relS scope sc) tg' && (slots tg).all (fun i => vs.contains i) &&
      chkCond cond (relS scope sc) ifs && chkE elt (relS scope sc) elt'
  | .app r a, sc, .Call (.Attribute o' x ap) [a'] [] cp => decide (x = ("append" : Str)) && (ap.endLine == cp.line) && plainRecv o' && chkE r sc o' && chkE a sc a'
  | .pop r, sc, e => match e with
    | .Call (.Attribute o' x ap) [] [] cp => decide (x = ("pop" : Str)) && (ap.endLine == cp.line) && plainRecv o' && chkE r sc o'
    | _ => false
  | .rev a, sc, e => match e with
    | .Subscript x (.Slice none none (some (.UnaryOp .USub (.Constant (.int 1) _ _) _)) _) _ => chkE a sc x
    | _ => false
  | .fld c a n, sc, e => match e with
    | .Attribute a' x _ => decide (x = strV n) && decide ((c, n) ∈ T.flds) && plainRecv a' && chkE a sc a'
    | _ => false
  | .meth c f n a es, sc, e => match e with
    | .Call (.Attribute o' x ap) es' [] cp => decide (x = strV n) && decide ((c, n, f) ∈ T.mets) && decide (n ≠ initN) && npB T.fns f (es.length + 1) && (ap.endLine == cp.line) && plainRecv o' && decide (es.length < 29) && chkE a sc o' && chkEs es sc es'
    | _ => false
  | .make c f es, sc, e => match e with
    | .Call (.Name x _) es' [] _ => globB sc x && decide (x = strV c) && decide ((c, initN, f) ∈ T.mets) && npB T.fns f (es.length + 1) && !es.isEmpty && chkEs es sc es'
    | _ => false
  | .dlit es, sc, e => match e with
    | .Dict ks vs _ => decide (ks.length ≤ 15) && chkPs es sc ks vs
    | _ => false
  | .dix a b, sc, e => match e with
    | .Subscript l r _ => chkE a sc l && chkE b sc r
    | _ => false
  | .dget a b, sc, e => match e with
    | .Call (.Attribute o' x ap) [b'] [] cp => decide (x = ("get" : Str)) && (ap.endLine == cp.line) && plainRecv o' && chkE a sc o' && chkE b sc b'
    | _ => false
  | .dget2 a b d, sc, e => match e with
    | .Call (.Attribute o' x ap) [b', d'] [] cp => decide (x = ("get" : Str)) && (ap.endLine == cp.line) && plainRecv o' && chkE a sc o' && chkE b sc b' && chkE d sc d'
    | _ => false
  | .din neg b a, sc, e => match e with
    | .Compare l [o] [r] _ => decide (o = inOp neg) && chkE b sc l && chkE a sc r
    | _ => false
  | .gdx d b, sc, e => match e with
    | .Subscript (.Name x _) r _ => globB sc x && decide ((x, d) ∈ T.gds) && chkE b sc r
    | _ => false
  | .gdin neg d b, sc, e => match e with
    | .Compare l [o] [.Name x _] _ => decide (o = inOp neg) && globB sc x && decide ((x, d) ∈ T.gds) && chkE b sc l
    | _ => false
  | .lof a, sc, e => match e with
    | .Call (.Name x _) [a'] [] _ => globB sc x && decide (x = ("list" : Str)) && decide (x ∈ T.blt) && chkE a sc a'
    | _ => false
  | .lrng es, sc, e => match e with
    | .Call (.Name x _) [.Call (.Name y _) es' [] _] [] _ => globB sc x && decide (x = ("list" : Str)) && decide (x ∈ T.blt) && globB sc y && decide (y = ("range" : Str)) && decide (y ∈ T.blt) && (es.length == 1 || es.length == 2) && chkEs es sc es'
    | _ => false
  | .dcnt i a, sc, e => match e with
    | .Call (.Name x _) [.DictComp (.Name y _) (.Constant (.bool true) _ _) [⟨.Name z _, it, [], 0⟩] scope _] [] _ => globB sc x && decide (x = ("len" : Str)) && decide (x ∈ T.blt) && decide (z = y) && decide (N[i]? = some y) && blkC N sc scope [(y, i)] && locB (relS scope sc) y && (blkFn scope y || decide ((relS scope sc).names.lookup y = some .local)) && visB (relS scope sc) y && nameOk y && chkE a sc it
    | _ => false
  | .scnt a, sc, e => match e with
    | .Call (.Name x _) [.Call (.Name y _) [a'] [] _] [] _ => globB sc x && decide (x = ("len" : Str)) && decide (x ∈ T.blt) && globB sc y && decide (y = ("set" : Str)) && decide (y ∈ T.blt) && chkE a sc a'
    | _ => false
  | _, _, _ => false
def chkPs : List C → Scope → List (Option Expr) → List Expr → Bool
  | [], _, ks, vs => ks.isEmpty && vs.isEmpty
  | [_], _, _, _ => false
  | a :: b :: cs, sc, ks, vs => match ks, vs with
    | some k :: ks, v :: vs => chkE a sc k && chkE b sc v && chkPs cs sc ks vs
    | _, _ => false
def chkEs : List C → Scope → List Expr → Bool
  | [], _, [] => true
  | c :: cs, sc, e :: es => chkE c sc e && chkEs cs sc es
  | _, _, _ => false
def chkCond : List C → Scope → List Expr → Bool
  | [], _, [] => true
  | [c], sc, [e] => chkE c sc e
  | _, _, _ => false
def chkIt : It → Scope → Expr → Expr → Bool
  | .seq a, sc, _, e => chkE a sc e
  | .rng es, sc, _, .Call (.Name x _) es' [] _ => globB sc x && decide (x = ("range" : Str)) && decide (x ∈ T.blt) && (es.length == 1 || es.length == 2) && chkEs es sc es'
  | .enum a, sc, .Tuple _ _ _, .Call (.Name x _) [e] [] _ => globB sc x && decide (x = ("enumerate" : Str)) && decide (x ∈ T.blt) && chkE a sc e
  | _, _, _, _ => false
end
end

/-- what is known of an exception class: at a, its field fo -/
structure XOk (P : Program) (w : World) (K : PySem.W.Frag) (mg : Str → Option Value) (base : Heap) (x : Str) (fo : Option Str) (a : Addr) : Prop where
  at_ : mg x = some (.ref a)
  keep : PySem.W.keepIn K (.ref a) = true
  plain : fo = none → PySem.W.excIn K a [.type "ValueError", .type "Exception", .type "BaseException", .type "object"] "ValueError.__new__" = true
  own : ∀ f, fo = some f → OexC K a ∧ XfC K a ∧ PySem.W.findIn K (.ref a) f = some none ∧ ∃ (fI : Addr) (fd : FuncData) (pr : Str), PySem.W.findIn K (.ref a) "__init__" = some (some (.ref fI)) ∧ PySem.W.typeIn K (.ref fI) = some (.type "function") ∧
    FnOk P w K mg base (L2.CX P w) 1 fI fd (PSl pr) (supSp K a f goodX) ∧ Binds K fd (PSl pr) []
/-- what is known of a program's names where code runs -/
structure Lk (X : Cx) (xC : Xs) (T : Tab) (k : Nat) (o : Orc) : Prop where
  calm : X.calm = true
  nd : X.N.Nodup
  room1 : Room (k + 1) X.A
  fn : ∀ f x np, T.fns[f]? = some (x, np) → ∃ fa fd ps, FnOk X.prog X.w X.K X.mg X.base (L2.CX X.prog X.w) k fa fd ps (spF X.K xC np (o.call f)) ∧ PySem.W.keepIn X.K (.ref fa) = true ∧ Binds X.K fd ps [] ∧ (x ≠ ("" : Str) → X.mg x = some (.ref fa)) ∧
    ∀ c n, (c, n, f) ∈ T.mets → Cls X.K (clA X.K c) ∧ X.mg (strV c) = some (.ref (clA X.K c)) ∧ (n = initN → Mk X.K (clA X.K c) fa) ∧ (n ≠ initN → Meth X.K (clA X.K c) (strV n) fa)
  fld : ∀ c n, (c, n) ∈ T.flds → FldOk X.K c n
  gd : ∀ x d, (x, d) ∈ T.gds → ∃ a, X.mg x = some (.ref a) ∧ GdAt X.K X.w d a
  gl : ∀ x v, (x, v) ∈ T.gls → ∃ xv u, X.mg x = some u ∧ RelV xv u ∧ ∀ m n H, VR X.K m n H v xv
  bl : ∀ x, x ∈ T.blt → X.mg x = none
  ex : ∀ (i : Nat) x fo, T.exs[i]? = some (x, fo) → XOk X.prog X.w X.K X.mg X.base x fo (xC.a i) ∧ xC.f i = fo ∧ Raises X (.ref (xC.a i))
  xn : xC.n = T.exs.length
  exm : ∀ i j, i < xC.n → j < xC.n → PySem.W.exmOne X.K (.ref (xC.a i)) (.ref (xC.a j)) = some ((T.subs.getD j []).contains i)
  isx : ∀ i j, i < xC.n → j < xC.n → ExcC X.K (xC.a i) ∧ PySem.W.kitOne X.K (.ref (xC.a i)) (.ref (xC.a j)) = some ((T.subs.getD j []).contains i)
  two : 2 ≤ k


section
variable {X : Cx} {xC : Xs} {T : Tab} {k : Nat} {o : Orc}
theorem Lk.block (L : Lk X xC T k o) (s : Shared) (H : Hp) (scope : Scope) (cenv : PySem.Env) (fp : List Addr) : Lk (X.blk s H scope cenv fp) xC T k o :=
  ⟨L.calm, L.nd, L.room1, L.fn, L.fld, L.gd, L.gl, L.bl, L.ex, L.xn, L.exm, L.isx, L.two⟩
theorem Lk.room (L : Lk X xC T k o) : Room k X.A := L.room1.mono (Nat.le_succ _)
theorem Lk.hu (L : Lk X xC T k o) : X.A.units + 65 < cLine := by have := L.room.un; omega
theorem Lk.hu1 (L : Lk X xC T k o) : X.A.units + 1 < cLine := by have := L.room.un; omega
end

/-! ### what the checker shows of the text -/
section
variable {T : Tab} {N : List Str}
theorem globB_gl {X : Cx} {x : Str} (h : globB X.env.scope x = true) : Gl X x ∧ (x == ("__debug__" : Str)) = false := by
  unfold globB at h
  rw [Bool.and_eq_true, decide_eq_true_eq, Bool.not_eq_true'] at h
  exact h
theorem visB_vis {sc : Scope} {x : Str} (h : visB sc x = true) : Vis sc x := by
  unfold visB at h
  simp only [Bool.or_eq_true, decide_eq_true_eq] at h
  exact h
theorem locB_loc {sc : Scope} {x : Str} (h : locB sc x = true) : Loc sc x := by
  unfold locB at h
  simp only [Bool.or_eq_true, decide_eq_true_eq] at h
  exact h
/-- an expression that the checker takes has no star, no slice, no set, is no constant pile -/
theorem chk_star {c : C} {sc : Scope} {e : Expr} (h : chkE T N c sc e = true) (es : List Expr) (env : PySem.Env) : starEach (e :: es) env = (false, eval e env) :: starEach es env := by
  cases e with
  | Starred v p => cases c <;> exact absurd (show false = true from h) Bool.false_ne_true
  | _ => rfl
theorem chk_mark {c : C} {sc : Scope} {e : Expr} (h : chkE T N c sc e = true) (op : CmpOp) : behindInMarks op e = false := by
  cases e with
  | Set v p q => cases c <;> exact absurd (show false = true from h) Bool.false_ne_true
  | _ => rfl
theorem chk_last {c : C} {sc : Scope} {e : Expr} (h : chkE T N c sc e = true) (p q : CmpOp) (b : Expr) : lastMarks [p, q] [b, e] = false := chk_mark h q
theorem chk_fold {c : C} {sc : Scope} {e : Expr} (h : chkE T N c sc e = true) (env : PySem.Env) : ∀ x, foldedSetIterable e env x = pure x := by
  intro x
  cases e with
  | Set v p q => cases c <;> exact absurd (show false = true from h) Bool.false_ne_true
  | _ => rfl
theorem chk_ix {c : C} {sc : Scope} {e : Expr} (h : chkE T N c sc e = true) : PlainIx e := by
  intro o i
  cases e with
  | Slice a b s p => cases c <;> exact absurd (show false = true from h) Bool.false_ne_true
  | _ => rfl
theorem recv_base {e : Expr} (h : plainRecv e = true) (attr : Str) (env : PySem.Env) : attributeBase e attr env (eval e env) = eval e env := by
  unfold attributeBase
  split
  · rename_i id p pos
    have h : (!(id == ("super" : Str))) = true := h
    have h2 : (id != ("super" : Str)) = true := h
    simp only [h2, Bool.true_or, if_true]
  · rfl
theorem chk_noStar : ∀ {cs : List C} {sc : Scope} {es : List Expr} (env : PySem.Env) (pos : Pos), chkEs T N cs sc es = true → (backTo pos (starEach es env)).any (·.1) = false ∧ (backTo pos (starEach es env)).all (fun x => !x.1) = true
  | [], _, [], env, pos, _ => ⟨rfl, rfl⟩
  | [], _, _ :: _, _, _, h => absurd (show false = true from h) Bool.false_ne_true
  | _ :: _, _, [], _, _, h => absurd (show false = true from h) Bool.false_ne_true
  | c :: cs, sc, e :: es, env, pos, h => by
    have h : (chkE T N c sc e && chkEs T N cs sc es) = true := h
    rw [Bool.and_eq_true] at h
    rw [chk_star h.1]
    obtain ⟨h1, h2⟩ := chk_noStar env pos h.2
    constructor
    · show (false || (backTo pos (starEach es env)).any (·.1)) = false
      rw [h1]; rfl
    · show (true && (backTo pos (starEach es env)).all (fun x => !x.1)) = true
      rw [h2]; rfl
theorem chk_len : ∀ {cs : List C} {sc : Scope} {es : List Expr}, chkEs T N cs sc es = true → cs.length = es.length
  | [], _, [], _ => rfl
  | [], _, _ :: _, h => absurd (show false = true from h) Bool.false_ne_true
  | _ :: _, _, [], h => absurd (show false = true from h) Bool.false_ne_true
  | c :: cs, sc, e :: es, h => by
    have h : (chkE T N c sc e && chkEs T N cs sc es) = true := h
    rw [Bool.and_eq_true] at h
    rw [List.length_cons, List.length_cons, chk_len h.2]
end
theorem evEs_len {o : Orc} : ∀ {cs : List C} {ρ : Env} {S : Store} {vs : List PV} {S' : Store}, evEs o cs ρ S = .ok vs S' → vs.length = cs.length
  | [], ρ, S, vs, S', h => by cases h; rfl
  | c :: cs, ρ, S, vs, S', h => by
    unfold evEs at h
    cases h1 : evE o c ρ S with
    | ok v S1 =>
      rw [h1] at h
      simp only [Out.bind_ok] at h
      cases h2 : evEs o cs ρ S1 with
      | ok ws S2 =>
        rw [h2] at h
        cases h
        rw [List.length_cons, List.length_cons, evEs_len h2]
      | exc _ _ _ => rw [h2] at h; cases h
      | bad => rw [h2] at h; cases h
    | exc _ _ _ => rw [h1] at h; cases h
    | bad => rw [h1] at h; cases h

/-! ### targets -/
mutual
theorem sndTG {X : Cx} {N : List Str} {fn : Str → Bool} (hN : X.N = N) (hc : X.calm = true) (nd : X.N.Nodup) (hf : X.fn = fn) : ∀ (t : TG) (e : Expr), chkTG N fn t X.env.scope e = true → PG X e (gT X.K t)
  | .nm i, e, h => by
    cases e with
    | Name x p =>
      have h : (decide (N[i]? = some x) && locB X.env.scope x && (fn x || decide (X.env.scope.names.lookup x = some .local))) = true := h
      simp only [Bool.and_eq_true, Bool.or_eq_true, decide_eq_true_eq] at h
      exact g_name nd (by rw [hN]; exact h.1.1) (locB_loc h.1.2) (by rw [hf]; exact h.2)
    | _ => exact absurd (show false = true from h) Bool.false_ne_true
  | .tp ts, e, h => by
    cases e with
    | Tuple es k p =>
      have h : chkTGs N fn ts X.env.scope es = true := h
      obtain ⟨h1, h2, h3⟩ := sndTGs hN hc nd hf ts es h
      exact g_tup hc h1 h2 h3
    | _ => exact absurd (show false = true from h) Bool.false_ne_true
theorem sndTGs {X : Cx} {N : List Str} {fn : Str → Bool} (hN : X.N = N) (hc : X.calm = true) (nd : X.N.Nodup) (hf : X.fn = fn) : ∀ (ts : List TG) (es : List Expr), chkTGs N fn ts X.env.scope es = true →
    PGs X es (gTs X.K ts) ∧ (assignEach es X.env).length = ts.length ∧ (assignEach es X.env).findIdx? (·.1) = none
  | [], [], h => ⟨g_nil, rfl, rfl⟩
  | [], _ :: _, h => absurd (show false = true from h) Bool.false_ne_true
  | _ :: _, [], h => absurd (show false = true from h) Bool.false_ne_true
  | t :: ts, e :: es, h => by
    have h : (chkTG N fn t X.env.scope e && chkTGs N fn ts X.env.scope es) = true := h
    rw [Bool.and_eq_true] at h
    have h1 := sndTG hN hc nd hf t e h.1
    obtain ⟨h2, h3, h4⟩ := sndTGs hN hc nd hf ts es h.2
    have hs : assignEach (e :: es) X.env = (false, assign e X.env) :: assignEach es X.env := by
      cases e with
      | Starred v p => cases t <;> exact absurd (show false = true from h.1) Bool.false_ne_true
      | _ => rfl
    refine ⟨g_cons h1 h2 (by rw [hs]; rfl), by rw [hs, List.length_cons, List.length_cons, h3], ?_⟩
    rw [hs, List.findIdx?_cons, h4]
    rfl
end
end MK

set_option linter.all false
set_option autoImplicit false
set_option Elab.async false
set_option maxRecDepth 100000
set_option maxHeartbeats 4000000
/-! MkGap: list(a) owned, list(range(..)), how many keys there are. -/
namespace MK
open PySem PySem.Spec PyProof.Rows L2
section
variable {X : Cx} {xC : Xs} {W : WX} {a : Expr} {f : Env → Store → Out PV} {pos p : Pos} {x : Str}
/-- list(a), that the def changes -/
theorem e_lof (hx : x = ("list" : Str)) (hg : Gl X x) (hm : X.mg x = none) (ha : PE X a (tE X.K xC W f)) (hs : starEach [a] X.env = (false, eval a X.env) :: starEach [] X.env) :
    PE X (.Call (.Name x p) [a] [] pos) (tE X.K xC W fun ρ S => (f ρ S).bind fun x S1 => match seqOf S1 x with | some xs => .ok (.ref S1.length) (S1 ++ [.lst xs]) | none => .bad) := by
  subst hx
  refine (pe_callTy call_list_of hg hm boot_list (pa_cons ha pa_nil hs) (by decide) (by decide) hs rfl).imp fun σ H Q ⟨ρ, S, m, G, q⟩ => ?_
  refine ⟨ρ, S, m, G, OP.imp (fun v S1 m1 H1 e1 s1 q1 y r1 => ?_) (OP.bind q)⟩
  split at q1
  · rename_i ys hl
    obtain ⟨p, vs, e2, hq, rs⟩ := VR.seqOf s1 r1 hl
    subst e2
    exact ⟨p, vs, rfl, hq, fun l hp => placed s1 hp rs q1⟩
  · exact q1.elim
theorem vrs_rg {K : PySem.W.Frag} {m : Mp} {n : Nat} {H : Hp} {a : Int} : ∀ l : List Nat, VRs K m n H (l.map fun (i : Nat) => PV.int (a + (i : Int))) (l.map fun (i : Nat) => V.int (a + (i : Int)))
  | [] => .nil
  | i :: l => .cons (.int _) (vrs_rg l)
/-- list(range(..)) -/
theorem e_lrng {es : List Expr} {b : Expr} {y : Str} {p2 pos2 : Pos} {l : Env → Store → Out (List PV)} (hx : x = ("list" : Str)) (hy : y = ("range" : Str)) (hc : X.calm = true) (hg : Gl X x) (hm : X.mg x = none) (hg2 : Gl X y) (hm2 : X.mg y = none)
    (hb : es = [b] ∨ ∃ c, es = [b, c]) (ha : PA X es (tA X.K xC W l)) (hs : starEach es X.env = es.map fun e => (false, eval e X.env)) (hs2 : ∀ c, es = [b, c] → starEach [c] X.env = [(false, eval c X.env)]) :
    PE X (.Call (.Name x p) [.Call (.Name y p2) es [] pos2] [] pos) (tE X.K xC W fun ρ S => (l ρ S).bind fun vs S1 => lift S1 (rgLst vs)) := by
  subst hx hy
  have key : PRg X (.Call (.Name "range" p2) es [] pos2) (fun σ H Q => tA X.K xC W l σ H fun xs H1 => (∃ n, xs = [.int n] ∧ Q 0 n H1) ∨ ∃ i j, xs = [.int i, .int j] ∧ Q i j H1) := by
    intro pins s σ H Q I h
    have args := ha.run pos2 pins s σ H _ I h
    rcases hb with rfl | ⟨c, rfl⟩
    · refine Call_ (ld_blt I hg2 hm2 boot_range (PyProof.Rows.callWith_type1 (thn args fun us s1 ⟨vs, H1, I1, r, q⟩ => ?_) hs rfl))
      rcases q with ⟨n, rfl, q⟩ | ⟨i, j, rfl, q⟩
      · cases r with
        | cons r1 rr =>
          cases rr
          obtain ⟨t, rfl⟩ := r1
          exact call_range_1 ⟨_, 0, n, _, _, _, H1, rfl, IsRange.new _ _ _ _ _ _ _, I1.kept fun b u e => Heap.get?_push_of_some _ e, q⟩
      · cases r with
        | cons r1 rr =>
          cases rr with
          | cons r2 rr =>
            cases rr
            obtain ⟨t, rfl⟩ := r1
            obtain ⟨t', rfl⟩ := r2
            exact call_range_2 ⟨_, i, j, _, _, _, H1, rfl, IsRange.new _ _ _ _ _ _ _, I1.kept fun b u e => Heap.get?_push_of_some _ e, q⟩
    · have h2 := hs2 c rfl
      refine Call_ (ld_blt I hg2 hm2 boot_range (PyProof.Rows.callWith_type1 (thn args fun us s1 ⟨vs, H1, I1, r, q⟩ => ?_) (by rw [hs, h2]; rfl) (by rw [h2]; rfl)))
      rcases q with ⟨n, rfl, q⟩ | ⟨i, j, rfl, q⟩
      · cases r with
        | cons r1 rr =>
          cases rr
          obtain ⟨t, rfl⟩ := r1
          exact call_range_1 ⟨_, 0, n, _, _, _, H1, rfl, IsRange.new _ _ _ _ _ _ _, I1.kept fun b u e => Heap.get?_push_of_some _ e, q⟩
      · cases r with
        | cons r1 rr =>
          cases rr with
          | cons r2 rr =>
            cases rr
            obtain ⟨t, rfl⟩ := r1
            obtain ⟨t', rfl⟩ := r2
            exact call_range_2 ⟨_, i, j, _, _, _, H1, rfl, IsRange.new _ _ _ _ _ _ _, I1.kept fun b u e => Heap.get?_push_of_some _ e, q⟩
  refine (pe_listRg hc hg hm key rfl).imp fun σ H Q ⟨ρ, S, m, G, q⟩ => ?_
  refine ⟨ρ, S, m, G, OP.imp (fun vs S1 m1 H1 e1 s1 q1 ys r => ?_) (OP.bind q)⟩
  obtain ⟨w, hw, q2⟩ := q1.lift
  have fin : ∀ i j : Int, w = rgL i j → ∀ q, H1 q = none → Q (.ref q) (upd H1 q (.lst (rgV i j))) := fun i j e q' hq => by
    subst e
    exact q2 m1 _ (Ext.push s1 hq) (s1.push hq) _ (VR.lstNew s1 hq (vrs_rg _))
  unfold rgLst at hw
  split at hw
  · rename_i b
    split at hw
    · rename_i hb2
      unfold BIG at hb2
      cases hw
      cases r with
      | cons r1 rr =>
        cases rr
        cases r1
        exact .inl ⟨b, rfl, ⟨by omega, by omega, by omega, by omega, by omega⟩, fin 0 b rfl⟩
    · cases hw
  · rename_i i j
    split at hw
    · rename_i hb2
      unfold BIG at hb2
      cases hw
      cases r with
      | cons r1 rr =>
        cases rr with
        | cons r2 rr =>
          cases rr
          cases r1
          cases r2
          exact .inr ⟨i, j, rfl, ⟨by omega, by omega, by omega, by omega, by omega⟩, fin i j rfl⟩
    · cases hw
  · cases hw
end
/-! ### how many keys there are -/
theorem keysOf_snoc (x : PV) : ∀ (l acc : List PV), keysOf (l ++ [x]) acc = if ((keysOf l acc).any fun j => decide (j = x)) = true then keysOf l acc else keysOf l acc ++ [x]
  | [], acc => rfl
  | y :: l, acc => keysOf_snoc x l _
theorem keysOf_le : ∀ (l acc : List PV), (keysOf l acc).length ≤ acc.length + l.length
  | [], acc => Nat.le_refl _
  | y :: l, acc => by
    have := keysOf_le l (if (acc.any fun j => decide (j = y)) = true then acc else acc ++ [y])
    show (keysOf l (if (acc.any fun j => decide (j = y)) = true then acc else acc ++ [y])).length ≤ acc.length + (l.length + 1)
    split at this
    · rename_i h; rw [if_pos h]; omega
    · rename_i h; rw [if_neg h]; rw [List.length_append, List.length_singleton] at this; omega
section
variable {X : Cx} {xC : Xs} {W : WX} {it : Expr} {f : Env → Store → Out PV} {pos p p3 p4 p5 p6 : Pos} {x y : Str} {i j : Nat} {scope : Scope}
theorem e_dcnt (hx : x = ("len" : Str)) (hc : X.calm = true) (hN : X.N.Nodup) (hi : X.N[i]? = some y) (ok : BlkOk X.N X.env.scope scope [(y, i)]) (hl : Loc (relS scope X.env.scope) y) (hf : blkFn scope y = true ∨ (relS scope X.env.scope).names.lookup y = some .local) (hv : Vis (relS scope X.env.scope) y)
    (d1 : (y == ("__debug__" : Str)) = false) (d2 : (y == ("__classdict__" : Str)) = false) (hg : Gl X x) (hm : X.mg x = none) (ha : PE X it (tE X.K xC W f)) (hs : ∀ z, foldedSetIterable it X.env z = pure z) :
    PE X (.Call (.Name x p) [.DictComp (.Name y p3) (.Constant (.bool true) j p4) [⟨.Name y p5, it, [], 0⟩] scope p6] [] pos) (tE X.K xC W fun ρ S => (f ρ S).bind fun x S1 => if i < ρ.length then lift S1 (dcntV x) else .bad) := by
  subst hx
  have hd := pe_dc (kx := .Name y p3) (vx := .Constant (.bool true) j p4) (tg := .Name y p5) (pos := p6) hc hN (pi_tup ha) ok
    (fun s H C cl fp => pg_name (X := X.blk s H scope (compEnvC scope cl C X.env) fp) hN hi hl hf) (fun s H C cl fp => pts_nil)
    (fun s H C cl fp => pe_var (X := X.blk s H scope (compEnvC scope cl C X.env) fp) hi hv d1 d2) (fun s H C cl fp => pe_bl) hs
  refine (pe_callB call_lenD hg hm boot_len (pa_cons hd pa_nil rfl)).imp fun σ H Q ⟨ρ, S, m, G, q⟩ => ?_
  refine ⟨ρ, S, m, G, OP.imp (fun v S1 m1 H1 e1 s1 q1 u r1 => ?_) (OP.bind q)⟩
  split at q1
  case isFalse => exact q1.elim
  rename_i hil
  obtain ⟨w, hw, q2⟩ := q1.lift
  unfold dcntV at hw
  split at hw
  case h_2 => cases hw
  rename_i xs
  split at hw
  case isFalse => cases hw
  rename_i hk
  obtain ⟨hk1, hk2⟩ := hk
  cases hw
  cases r1 with
  | @tup a vs _ ht rs =>
    have hlen : xs.length = vs.length := rs.length
    refine ⟨a, rfl, ⟨vs, ht⟩, fun D hD => ?_⟩
    have hG : ρ.length = σ.length := G.env.len
    refine dc_tup (xs := vs) (fun n H' => ∃ us kvs, H' = upd H1 D (.dK kvs) ∧ KeyR (keysOf (xs.take n) []) kvs ∧ VRs X.K m1 S1.length H1 us (kvs.map (·.2))) ⟨[], [], rfl, trivial, .nil⟩ (fun n H' _ h => ?_) (fun n z H' hz h => ?_) (fun H' h => ?_)
    · obtain ⟨us, kvs, rfl, _, _⟩ := h
      exact SqT.on s1 (Ext.push s1 hD) ht
    · obtain ⟨us, kvs, rfl, kr, ru⟩ := h
      have hn : n < vs.length := (List.getElem?_eq_some_iff.mp hz).1
      have hx : xs[n]? = some xs[n] := List.getElem?_eq_getElem (by omega)
      obtain ⟨z', hz', rz⟩ := rs.get hx
      have := hz.symm.trans hz'
      cases this
      have hkey := List.all_eq_true.mp hk1 xs[n] (List.getElem_mem _)
      obtain ⟨ka, hka⟩ := keyV_of hkey
      have ez := kV_of hka rz
      have hw1 : (L2.wipe σ [i]).length = σ.length := wipe_length σ [i]
      refine ⟨?_, ?_⟩
      · show ((σ.set i none).set i (some z)).set i none = σ.set i none
        rw [List.set_set, List.set_set]
      have q0 : ((L2.wipe σ [i]).set i (some z))[i]? = some (some z) := by rw [List.getElem?_set_self (by rw [hw1]; omega)]
      show ∃ v, ((L2.wipe σ [i]).set i (some z))[i]? = some (some v) ∧ _
      refine ⟨z, q0, ?_⟩
      obtain ⟨p1, p2⟩ := put_ok hka (okS_of rz) (VR.bl (K := X.K) (m := m1) (n := S1.length) (H := H1) true) kr ru
      refine ⟨kvs, ka, ez, upd_same, ?_, _, putK kvs ka (.bl true), ?_, ?_, p2⟩
      · rw [← kr.length]
        have := keysOf_le (xs.take n) []
        rw [List.length_take, List.length_nil] at this
        rw [sizeLine_eq]
        omega
      · funext b
        by_cases hb : b = D
        · subst hb; rw [upd_same, upd_same]
        · rw [upd_ne hb, upd_ne hb, upd_ne hb]
      · rw [List.take_add_one, hx]
        show KeyR (keysOf (xs.take n ++ [xs[n]]) []) _
        rw [keysOf_snoc]
        unfold putD at p1
        split at p1
        · rename_i h; rw [if_pos h]; exact p1
        · rename_i h; rw [if_neg h]; exact p1
    · obtain ⟨us, kvs, rfl, kr, ru⟩ := h
      rw [← hlen, List.take_length] at kr
      refine ⟨D, kvs, rfl, upd_same, ?_⟩
      rw [← kr.length]
      exact q2 m1 _ (Ext.push s1 hD) (s1.push hD) _ (.int _)
end
end MK

set_option linter.all false
set_option autoImplicit false
set_option Elab.async false
set_option maxRecDepth 100000
set_option maxHeartbeats 4000000
/-! MkSet: len(set(a)): texts and numbers. Printed in part: the same for a list and for a tuple. -/
namespace MK
open PySem PySem.Spec PyProof.Rows L2
/-- what is in the set of such keys, and how many they are -/
def inK (ks : List PV) (k : Key) : Bool := ks.any fun j => decide (keyV j = some k)
theorem inK_any {ks : List PV} {x : PV} {k : Key} (hx : keyV x = some k) : inK ks k = ks.any fun j => decide (j = x) := by
  unfold inK
  congr 1
  funext j
  exact decide_eq_decide.mpr ⟨fun e => keyV_inj e hx, fun e => e ▸ hx⟩
theorem inK_step {ks : List PV} {x : PV} {k k' : Key} (hx : keyV x = some k) : inK (if (ks.any fun j => decide (j = x)) = true then ks else ks ++ [x]) k' = (inK ks k' || decide (k' = k)) := by
  have hd : decide (keyV x = some k') = decide (k' = k) := decide_eq_decide.mpr ⟨fun e => by rw [hx] at e; injection e with e; exact e.symm, fun e => by rw [e]; exact hx⟩
  split
  · rename_i h
    by_cases e : k' = k
    · subst e
      rw [inK_any hx, h]
      rfl
    · rw [decide_eq_false e, Bool.or_false]
  · unfold inK
    rw [List.any_append, List.any_cons, List.any_nil, Bool.or_false, hd]
theorem len_step {ks : List PV} {x : PV} {k : Key} (hx : keyV x = some k) : (if inK ks k then ks.length else ks.length + 1) = (if (ks.any fun j => decide (j = x)) = true then ks else ks ++ [x]).length := by
  rw [inK_any hx]
  split
  · rfl
  · rw [List.length_append, List.length_singleton]
section
variable {prog : Program} {w : World} {A : Around} {R : Result → Shared → Prop} {I : Addr} {fp wr : List Addr} {G : Array GenState → Array GenState → Prop} {n : Nat} {P : Nat → Value → Prop} {St : Nat → Shared → Prop}
theorem setOf_cong {h : Heap} {a : Addr} {S S' : Key → Bool} {n n' : Nat} (hS : h.SetOf (mixKind prog w) a S n) (e : ∀ k, S k = S' k) (en : n = n') : h.SetOf (mixKind prog w) a S' n' := by
  obtain rfl : S = S' := funext e
  exact en ▸ hS
/-- the set of the first i of them -/
def SetN (prog : Program) (w : World) (h : Heap) (S : Addr) (xs : List PV) (i : Nat) : Prop := h.SetOf (mixKind prog w) S (inK (keysOf (xs.take i) [])) (keysOf (xs.take i) []).length
theorem set_turns (W : WalksS prog w A.in1 I fp wr G n P St) {S : Addr} (hSf : S ∉ fp) {xs : List PV} (hv : ∀ i v, P i v → ∃ x k, xs[i]? = some x ∧ keyV x = some k ∧ keyIs k v = true) (hb : n ≤ 4000) : ∀ (d i : Nat) (s : Shared), i + d = n → St i s → SetN prog w s.heap S xs i →
    (∀ s', Moved (S :: wr) G s s' → SetN prog w s'.heap S xs n → R (.ok (.ret .none)) s') → codeAny (model prog w) A (.builtin "set.update.loop" ⟨[.ref S, .ref I], []⟩) R s := by
  have up : ∀ b ∈ wr, b ∈ S :: wr := fun b h => List.mem_cons_of_mem _ h
  have still : ∀ {s s' : Shared} {i : Nat}, Moved wr G s s' → SetN prog w s.heap S xs i → SetN prog w s'.heap S xs i := fun hm ⟨o, es, ep, t, ho, more⟩ => ⟨o, es, ep, t, hm.heap S _ (fun z => hSf (W.sub _ z)) ho, more⟩
  intro d
  induction d with
  | zero =>
    intro i s hi st hS hR
    obtain rfl : i = n := hi
    refine codeAny_builtin F.entry_set_update_loop ?_; rw [Around.under_plainId F.plain_set_update_loop _]
    exact wpAny_bind (W.done s _ _ st fun s' hm => wpAny_pure (hR s' (hm.mono up) (still hm hS)))
  | succ d ih =>
    intro i s hi st hS hR
    have hlt : i < n := by omega
    refine codeAny_builtin F.entry_set_update_loop ?_; rw [Around.under_plainId F.plain_set_update_loop _]
    refine wpAny_bind (W.item i s _ _ hlt st fun v s' hP st' hm => ?_)
    obtain ⟨x, k, hx, hk, hkv⟩ := hv i v hP
    have hl := keysOf_le (xs.take i) []
    rw [List.length_nil, List.length_take] at hl
    have hS1 := still hm hS
    have hsc : v.scannable = true := by rcases keyIs_shape hkv with ⟨_, _, _, rfl⟩ | ⟨_, _, _, rfl⟩ <;> rfl
    refine wpAny_bind (wpAny_holding ?_); unfold setAdd
    refine wpAny_holding (wpAny_bind ((mixKind prog w).pyHash (k := k) hkv ?_))
    refine wpAny_setAddHashed_of (knd := mixKind prog w) (s := { s' with toks := s'.toks + 1 }) hkv hsc hS1 (by unfold scanBound; omega) fun h' sb hS2 => ?_
    have next : SetN prog w h' S xs (i + 1) := by
      unfold SetN
      rw [List.take_add_one, hx]
      show h'.SetOf _ S (inK (keysOf (xs.take i ++ [x]) [])) (keysOf (xs.take i ++ [x]) []).length
      rw [keysOf_snoc]
      exact setOf_cong hS2 (fun k' => (inK_step hk).symm) (len_step hk)
    refine wpAny_pure ⟨plainId_quiet F.plain_set_update_loop _, ih (i + 1) _ (by omega) (W.frame _ s' _ _ st' (Nat.le_succ _) fun b hb o e => (sb.2 b fun z => hSf (z ▸ hb)) ▸ e) next fun s2 hm2 hS2 => hR s2 (Moved.trans W.gtrans ((hm.mono up).then_heap (Nat.le_succ _) fun b o hb e => (sb.2 b fun z => hb (z ▸ List.mem_cons_self)) ▸ e) hm2) hS2⟩
end
section
variable {prog : Program} {w : World} {A : Around} {E : Value → Shared → Prop} {s : Shared}
/-- set(a), a a list of keys -/
theorem set_of_list {l : Addr} {its : Array Value} {xs : List PV} {Q : Value → Shared → Prop} (hh : A.handled = none) (hl : s.heap.IsList l its) (hsz : xs.length = its.size) (hv : ∀ (i : Nat) (v : Value), its[i]? = some v → ∃ (x : PV) (k : Key), xs[i]? = some x ∧ keyV x = some k ∧ keyIs k v = true) (hb : its.size ≤ 4000)
    (h : ∀ (h' : Heap) (tk : Nat), SetN prog w h' s.heap.objs.size xs its.size → (∀ b o, b < s.heap.objs.size → s.heap.get? b = some o → h'.get? b = some o) → Q (.ref s.heap.objs.size) { s with heap := h', toks := tk }) :
    wpAny (model prog w) A (call (.type "set") [.ref l]) Q E s := by
  have c1 := PySem.F.called_set.made; have c2 := PySem.F.called_set.sub; have c3 := PySem.F.called_set.notType; have c4 := PySem.F.called_set.canCreate; have c5 := PySem.F.typeCall_set_1 (.ref l)
  obtain ⟨_, _, c6⟩ := PySem.F.called_set.mro
  refine wpAny_call (codeAny_of_tree (show wpAny _ _ (callAny (.type "set") _) _ _ _ from wpAny_pure ⟨Code.quiet_builtin _ (by decide +kernel), codeAny_builtin PySem.F.entry_type_call ?_⟩))
  rw [Around.under_plain (weight_type_call_type "set" [.ref l] []) rfl]
  repeat (any_goals (first | assumption | wp_step))
  refine codeAny_mono (code_set_new_1 (.ref l) (E := E) (Q₁ := fun ob s1 => ∃ led : Bool, ob = .ref s.heap.objs.size ∧ s1 = { s with heap := s.heap.push ({ cls := Value.type "set", dict := none, data := Data.set #[] 0 (.fresh 0 0 led) } : Obj) }) fun led => ⟨led, rfl, rfl⟩) fun r s1 hr => ?_
  match r, hr with
  | .error e, hr => exact hr
  | .ok .next, hr => exact hr.elim
  | .ok .brk, hr => exact hr.elim
  | .ok .cont, hr => exact hr.elim
  | .ok (.ret ob), ⟨led, e1, e2⟩ =>
    subst e1 e2
    have at0 : (s.heap.push ({ cls := Value.type "set", dict := none, data := Data.set #[] 0 (.fresh 0 0 led) } : Obj)).get? s.heap.objs.size = some ({ cls := Value.type "set", dict := none, data := Data.set #[] 0 (.fresh 0 0 led) } : Obj) := Heap.get?_push_size _ rfl
    have ty0 : Shared.TypeIs { s with heap := s.heap.push ({ cls := Value.type "set", dict := none, data := Data.set #[] 0 (.fresh 0 0 led) } : Obj) } (.ref s.heap.objs.size) "set" := ⟨_, at0, rfl⟩
    have i1 := PySem.F.called_set.init.lookup; have i2 := PySem.F.called_set.init.bind (.ref s.heap.objs.size)
    repeat (any_goals (first | assumption | wp_step))
    refine codeAny_mono (codeAny_call_builtin (R := wants (fun r s2 => r = .none ∧ ∃ h' tk, s2 = { s with heap := h', toks := tk } ∧ SetN prog w h' s.heap.objs.size xs its.size ∧ (∀ b o, b < s.heap.objs.size → s.heap.get? b = some o → h'.get? b = some o)) E) PySem.F.called_set.init.plain PySem.F.entry_set_init (check_set_init_1 ty0 ?_)) fun r2 s2 hr2 => ?_
    · obtain ⟨⟨oc, od, oda, osl⟩, ho, hoc, nl, hod⟩ := hl
      dsimp only at hoc hod
      subst hoc hod
      have ho' : (s.heap.push ({ cls := Value.type "set", dict := none, data := Data.set #[] 0 (.fresh 0 0 led) } : Obj)).get? l = some { cls := .type "list", dict := od, data := .seq its nl, slots := osl } := Heap.get?_push_of_some _ ho
      have k1 := PySem.F.sub_list_set; have k2 := PySem.F.sub_list_frozenset
      have k3 : (Value.type "list" == Value.type "dict") = false := by decide
      have hl1 : (s.heap.push ({ cls := Value.type "set", dict := none, data := Data.set #[] 0 (.fresh 0 0 led) } : Obj)).IsList l its := ⟨_, ho', rfl, nl, rfl⟩
      unfold Builtin.«set.__init__» noKeywords Builtin.Frozenset.updateFrom
      generalize hgen : pyIter = gen
      wp_walk
      subst hgen
      refine wpAny_pyIter_list hl1 (wpAny_bind (wpAny_runValue ?_))
      have lS : l < s.heap.objs.size := Heap.lt_size ho
      have sz : (s.heap.push ({ cls := Value.type "set", dict := none, data := Data.set #[] 0 (.fresh 0 0 led) } : Obj)).objs.size = s.heap.objs.size + 1 := Heap.size_push ..
      have l2 : l ≠ (s.heap.push ({ cls := Value.type "set", dict := none, data := Data.set #[] 0 (.fresh 0 0 led) } : Obj)).objs.size := sz ▸ Nat.ne_of_lt (Nat.lt_succ_of_lt lS)
      have s2 : s.heap.objs.size ∉ [(s.heap.push ({ cls := Value.type "set", dict := none, data := Data.set #[] 0 (.fresh 0 0 led) } : Obj)).objs.size, l] := by
        rw [sz]
        intro z
        simp only [List.mem_cons, List.not_mem_nil, or_false] at z
        exact z.elim (fun e => Nat.ne_of_lt (Nat.lt_succ_self _) e) fun e => Nat.ne_of_gt lS e
      refine set_turns ((Walks.list (by simp [hh]) _ l l2 its).toS) s2 hv hb its.size 0 _ (Nat.zero_add _) ⟨⟨_, Heap.get?_push_size _ rfl, rfl, rfl⟩, hl1.push _⟩ ?a0 ?a1
      case a0 =>
        exact ⟨_, #[], 0, _, Heap.get?_push_of_some _ at0, ⟨rfl, rfl, rfl⟩, rfl, (fun e he => by simp at he), (fun k => ⟨fun h => absurd (show false = true from h) Bool.false_ne_true, fun ⟨e, he, _⟩ => by simp at he⟩), (by decide), (by rfl), rfl⟩
      case a1 =>
        rintro ⟨h', g', d', tk', os'⟩ hm hS'
        obtain rfl : g' = s.gens := hm.gens
        obtain rfl : d' = s.drawn := hm.drawn
        obtain rfl : os' = s.os := hm.os
        refine wpAny_pure (wpAny_pure ⟨rfl, h', tk', rfl, hS', fun b o hb e => hm.heap b o (fun z => ?_) (Heap.get?_push_of_some _ (Heap.get?_push_of_some _ e))⟩)
        simp only [List.mem_cons, List.not_mem_nil, or_false, sz] at z
        exact z.elim (fun e => Nat.ne_of_lt hb e) fun e => Nat.ne_of_lt (Nat.lt_succ_of_lt hb) e
    · match r2, hr2 with
      | .error e, hr2 => exact hr2
      | .ok .next, hr2 => exact hr2.elim
      | .ok .brk, hr2 => exact hr2.elim
      | .ok .cont, hr2 => exact hr2.elim
      | .ok (.ret ob), ⟨e1, h', tk, e2, hS', keep⟩ =>
        subst e1 e2
        repeat (any_goals (first | assumption | wp_step))
        exact h _ _ hS' keep
/-- set(a), a a tuple of keys -/
theorem set_of_tuple {l : Addr} {its : Array Value} {xs : List PV} {Q : Value → Shared → Prop} (hh : A.handled = none) (hl : s.heap.IsTuple l its) (hsz : xs.length = its.size) (hv : ∀ (i : Nat) (v : Value), its[i]? = some v → ∃ (x : PV) (k : Key), xs[i]? = some x ∧ keyV x = some k ∧ keyIs k v = true) (hb : its.size ≤ 4000)
    (h : ∀ (h' : Heap) (tk : Nat), SetN prog w h' s.heap.objs.size xs its.size → (∀ b o, b < s.heap.objs.size → s.heap.get? b = some o → h'.get? b = some o) → Q (.ref s.heap.objs.size) { s with heap := h', toks := tk }) :
    wpAny (model prog w) A (call (.type "set") [.ref l]) Q E s := by
  have c1 := PySem.F.called_set.made; have c2 := PySem.F.called_set.sub; have c3 := PySem.F.called_set.notType; have c4 := PySem.F.called_set.canCreate; have c5 := PySem.F.typeCall_set_1 (.ref l)
  obtain ⟨_, _, c6⟩ := PySem.F.called_set.mro
  refine wpAny_call (codeAny_of_tree (show wpAny _ _ (callAny (.type "set") _) _ _ _ from wpAny_pure ⟨Code.quiet_builtin _ (by decide +kernel), codeAny_builtin PySem.F.entry_type_call ?_⟩))
  rw [Around.under_plain (weight_type_call_type "set" [.ref l] []) rfl]
  repeat (any_goals (first | assumption | wp_step))
  refine codeAny_mono (code_set_new_1 (.ref l) (E := E) (Q₁ := fun ob s1 => ∃ led : Bool, ob = .ref s.heap.objs.size ∧ s1 = { s with heap := s.heap.push ({ cls := Value.type "set", dict := none, data := Data.set #[] 0 (.fresh 0 0 led) } : Obj) }) fun led => ⟨led, rfl, rfl⟩) fun r s1 hr => ?_
  match r, hr with
  | .error e, hr => exact hr
  | .ok .next, hr => exact hr.elim
  | .ok .brk, hr => exact hr.elim
  | .ok .cont, hr => exact hr.elim
  | .ok (.ret ob), ⟨led, e1, e2⟩ =>
    subst e1 e2
    have at0 : (s.heap.push ({ cls := Value.type "set", dict := none, data := Data.set #[] 0 (.fresh 0 0 led) } : Obj)).get? s.heap.objs.size = some ({ cls := Value.type "set", dict := none, data := Data.set #[] 0 (.fresh 0 0 led) } : Obj) := Heap.get?_push_size _ rfl
    have ty0 : Shared.TypeIs { s with heap := s.heap.push ({ cls := Value.type "set", dict := none, data := Data.set #[] 0 (.fresh 0 0 led) } : Obj) } (.ref s.heap.objs.size) "set" := ⟨_, at0, rfl⟩
    have i1 := PySem.F.called_set.init.lookup; have i2 := PySem.F.called_set.init.bind (.ref s.heap.objs.size)
    repeat (any_goals (first | assumption | wp_step))
    refine codeAny_mono (codeAny_call_builtin (R := wants (fun r s2 => r = .none ∧ ∃ h' tk, s2 = { s with heap := h', toks := tk } ∧ SetN prog w h' s.heap.objs.size xs its.size ∧ (∀ b o, b < s.heap.objs.size → s.heap.get? b = some o → h'.get? b = some o)) E) PySem.F.called_set.init.plain PySem.F.entry_set_init (check_set_init_1 ty0 ?_)) fun r2 s2 hr2 => ?_
    · obtain ⟨⟨oc, od, oda, osl⟩, ho, hoc, nl, hod⟩ := hl
      dsimp only at hoc hod
      subst hoc hod
      have ho' : (s.heap.push ({ cls := Value.type "set", dict := none, data := Data.set #[] 0 (.fresh 0 0 led) } : Obj)).get? l = some { cls := .type "tuple", dict := od, data := .seq its nl, slots := osl } := Heap.get?_push_of_some _ ho
      have k1 := PySem.F.sub_tuple_set; have k2 := PySem.F.sub_tuple_frozenset
      have k3 : (Value.type "tuple" == Value.type "dict") = false := by decide
      have hl1 : (s.heap.push ({ cls := Value.type "set", dict := none, data := Data.set #[] 0 (.fresh 0 0 led) } : Obj)).IsTuple l its := ⟨_, ho', rfl, nl, rfl⟩
      unfold Builtin.«set.__init__» noKeywords Builtin.Frozenset.updateFrom
      generalize hgen : pyIter = gen
      wp_walk
      subst hgen
      refine wpAny_pyIter_tuple hl1 (wpAny_bind (wpAny_runValue ?_))
      have lS : l < s.heap.objs.size := Heap.lt_size ho
      have sz : (s.heap.push ({ cls := Value.type "set", dict := none, data := Data.set #[] 0 (.fresh 0 0 led) } : Obj)).objs.size = s.heap.objs.size + 1 := Heap.size_push ..
      have l2 : l ≠ (s.heap.push ({ cls := Value.type "set", dict := none, data := Data.set #[] 0 (.fresh 0 0 led) } : Obj)).objs.size := sz ▸ Nat.ne_of_lt (Nat.lt_succ_of_lt lS)
      have s2 : s.heap.objs.size ∉ [(s.heap.push ({ cls := Value.type "set", dict := none, data := Data.set #[] 0 (.fresh 0 0 led) } : Obj)).objs.size, l] := by
        rw [sz]
        intro z
        simp only [List.mem_cons, List.not_mem_nil, or_false] at z
        exact z.elim (fun e => Nat.ne_of_lt (Nat.lt_succ_self _) e) fun e => Nat.ne_of_gt lS e
      refine set_turns ((Walks.tuple (by simp [hh]) _ l l2 its).toS) s2 hv hb its.size 0 _ (Nat.zero_add _) ⟨⟨_, Heap.get?_push_size _ rfl, rfl, rfl⟩, hl1.push _⟩ ?a0 ?a1
      case a0 =>
        exact ⟨_, #[], 0, _, Heap.get?_push_of_some _ at0, ⟨rfl, rfl, rfl⟩, rfl, (fun e he => by simp at he), (fun k => ⟨fun h => absurd (show false = true from h) Bool.false_ne_true, fun ⟨e, he, _⟩ => by simp at he⟩), (by decide), (by rfl), rfl⟩
      case a1 =>
        rintro ⟨h', g', d', tk', os'⟩ hm hS'
        obtain rfl : g' = s.gens := hm.gens
        obtain rfl : d' = s.drawn := hm.drawn
        obtain rfl : os' = s.os := hm.os
        refine wpAny_pure (wpAny_pure ⟨rfl, h', tk', rfl, hS', fun b o hb e => hm.heap b o (fun z => ?_) (Heap.get?_push_of_some _ (Heap.get?_push_of_some _ e))⟩)
        simp only [List.mem_cons, List.not_mem_nil, or_false, sz] at z
        exact z.elim (fun e => Nat.ne_of_lt hb e) fun e => Nat.ne_of_lt (Nat.lt_succ_of_lt hb) e
    · match r2, hr2 with
      | .error e, hr2 => exact hr2
      | .ok .next, hr2 => exact hr2.elim
      | .ok .brk, hr2 => exact hr2.elim
      | .ok .cont, hr2 => exact hr2.elim
      | .ok (.ret ob), ⟨e1, h', tk, e2, hS', keep⟩ =>
        subst e1 e2
        repeat (any_goals (first | assumption | wp_step))
        exact h _ _ hS' keep
end
section
variable {X : Cx} {xC : Xs} {W : WX} {a : Expr} {f : Env → Store → Out PV} {pos p p2 q0 : Pos} {x y : Str}
theorem keys_at {K : PySem.W.Frag} {m : Mp} {n : Nat} {H : Hp} {xs : List PV} {vs : List V} {its : List Value} (hk : xs.all isKey = true) (r : VRs K m n H xs vs) (rv : Vals vs its) (i : Nat) (v : Value) (hi : its[i]? = some v) : ∃ x k, xs[i]? = some x ∧ keyV x = some k ∧ keyIs k v = true := by
  have h1 : i < its.length := (List.getElem?_eq_some_iff.mp hi).1
  have h2 : i < xs.length := by rw [r.length, rv.length]; exact h1
  have hx : xs[i]? = some xs[i] := List.getElem?_eq_getElem h2
  obtain ⟨k, hkk⟩ := keyV_of (List.all_eq_true.mp hk xs[i] (List.getElem_mem _))
  obtain ⟨z, hz, rz⟩ := r.get hx
  have ez := kV_of hkk rz
  refine ⟨_, k, hx, hkk, ?_⟩
  obtain ⟨u, hu, rel⟩ := rv.get hz
  obtain rfl : u = v := by rw [hi] at hu; injection hu with e; exact e.symm
  subst ez
  cases k with
  | inl j => obtain ⟨t, rfl⟩ := (show ∃ t, u = Value.int j t from rel); exact keyIs_int j t
  | inr z => obtain ⟨t, rfl⟩ := (show ∃ t, u = Value.str z t from rel); exact keyIs_str z t
/-- len(set(a)) -/
theorem e_scnt (hx : x = ("len" : Str)) (hy : y = ("set" : Str)) (hc : X.calm = true) (hg : Gl X x) (hm : X.mg x = none) (hg2 : Gl X y) (hm2 : X.mg y = none) (ha : PE X a (tE X.K xC W f)) (hs : starEach [a] X.env = (false, eval a X.env) :: starEach [] X.env) :
    PE X (.Call (.Name x p) [.Call (.Name y p2) [a] [] q0] [] pos) (tE X.K xC W fun ρ S => (f ρ S).bind fun x S1 => lift S1 ((seqOf S1 x).bind scntV)) := by
  subst hx hy
  refine ⟨fun pins s σ H Q I ⟨ρ, S, m, G, q⟩ => Call_ (ld_blt I hg hm boot_len (callWith_builtin1 (args_cons ?_ rfl) rfl rfl))⟩
  have hv := ha.run pins s σ H (fun v H1 => ∃ xs vs l, v = .ref l ∧ (SqL X.K H1 l vs ∨ SqT X.K H1 l vs) ∧ xs.all isKey = true ∧ xs.length ≤ 4000 ∧ (∃ m n, VRs X.K m n H1 xs vs) ∧ Q (.int (keysOf xs []).length) H1) I ⟨ρ, S, m, G, OP.imp (fun v S1 m1 H1 e1 s1 q1 u r1 => ?_) (OP.bind q)⟩
  · refine Call_ (ld_blt I hg2 hm2 boot_set (callWith_type1 (args_cons (thn hv fun v s1 ⟨x, H1, I1, r1, xs, vs, l, ex, hq, hk, hn, ⟨m', n', rs⟩, q1⟩ => args_nil ?_) hs) hs rfl))
    subst ex
    obtain rfl : v = Value.ref l := r1
    have fin : ∀ (its : List Value), vs.length = its.length → ∀ (h' : Heap) (tk : Nat), SetN X.prog X.w h' s1.heap.objs.size xs its.toArray.size → (∀ b o, b < s1.heap.objs.size → s1.heap.get? b = some o → h'.get? b = some o) →
        wpAny (model X.prog X.w) X.A (spliced (backTo pos (starEach [] X.env))) (fun us s2 => wpAny (model X.prog X.w) X.A (call (.builtin "len") (Value.ref s1.heap.objs.size :: us)) (EP X pins σ Q) X.xe s2) X.xe { s1 with heap := h', toks := tk } := fun its hl h' tk hS hk => by
      unfold SetN at hS
      have e0 : its.toArray.size = xs.length := by rw [List.size_toArray, ← hl, ← rs.length]
      rw [e0, List.take_length] at hS
      obtain ⟨o, es, ep, t, ho, hex, hd, _, _, _, hf, hnn⟩ := hS
      have hle := keysOf_le xs []
      rw [List.length_nil] at hle
      exact args_nil (call_len_set ho hex hd hf (by rw [hnn]; omega) ⟨.int (keysOf xs []).length, H1, (I1.kept fun b o e => hk b o (Heap.lt_size e) e).tok _, ⟨_, by rw [hnn]⟩, q1⟩)
    rcases hq with hq | hq
    · obtain ⟨its, rv, pl, hz⟩ := I1.list hq
      have hl : xs.length = its.length := by rw [rs.length, rv.length]
      exact set_of_list (xs := xs) (I1.ok.hd hc) pl.isList (by rw [List.size_toArray]; exact hl) (fun i v hi => keys_at hk rs rv i v (by simpa using hi)) (by rw [List.size_toArray]; omega) fun h' tk hS hk => fin its rv.length h' tk hS hk
    · obtain ⟨its, rv, pl, hz⟩ := I1.tuple hq
      have hl : xs.length = its.length := by rw [rs.length, rv.length]
      exact set_of_tuple (xs := xs) (I1.ok.hd hc) pl (by rw [List.size_toArray]; exact hl) (fun i v hi => keys_at hk rs rv i v (by simpa using hi)) (by rw [List.size_toArray]; omega) fun h' tk hS hk => fin its rv.length h' tk hS hk
  · obtain ⟨w, hw, q2⟩ := q1.lift
    obtain ⟨xs, hx, hw⟩ := Option.bind_eq_some_iff.mp hw
    obtain ⟨l, vs, e2, hq, rs⟩ := VR.seqOf s1 r1 hx
    unfold scntV at hw
    split at hw
    · rename_i hk
      cases hw
      exact ⟨xs, vs, l, e2, hq, hk.1, hk.2, ⟨_, _, rs⟩, q2 m1 H1 (Ext.refl s1) s1 _ (.int _)⟩
    · cases hw
end
end MK

set_option linter.all false
set_option autoImplicit false
set_option Elab.async false
set_option maxRecDepth 100000
set_option maxHeartbeats 8000000
/-! MkMain: what the evaluator tells, the text does. -/
namespace MK
open PySem PySem.Spec PyProof.Rows L2

theorem b_and {a b : Bool} (h : (a && b) = true) : a = true ∧ b = true := by rwa [Bool.and_eq_true] at h
theorem b_no {P : Prop} (h : false = true) : P := absurd h Bool.false_ne_true
theorem npB_of {fns : List (Str × Nat)} {f n : Nat} (h : npB fns f n = true) : ∃ x, fns[f]? = some (x, n) := by
  unfold npB at h
  split at h
  · rename_i x np e
    have : np = n := by simpa using h
    subst this
    exact ⟨x, e⟩
  · exact b_no h
theorem okSb_ok {s : List Nat} (h : okSb s = true) : okS s := by
  obtain ⟨h1, h2⟩ := b_and h
  exact ⟨of_decide_eq_true h1, fun c hc => of_decide_eq_true (List.all_eq_true.mp h2 c hc)⟩
/-- a constant -/
theorem lit_ok {X : Cx} {xC : Xs} {W : WX} {v : PV} {c : Const} {j : Nat} {pos : Pos} (h : litOk v c = true) : PE X (.Constant c j pos) (tE X.K xC W fun _ S => .ok v S) := by
  cases v with
  | non => cases c <;> first | exact b_no h | exact e_const pe_non fun _ _ _ => .non
  | bl b =>
    cases c with
    | bool d =>
      have : b = d := beq_iff_eq.mp h
      subst this
      exact e_const pe_bl fun _ _ _ => .bl b
    | _ => exact b_no h
  | int i =>
    cases c with
    | int d =>
      have : i = d := beq_iff_eq.mp h
      subst this
      exact e_const pe_int fun _ _ _ => .int i
    | _ => exact b_no h
  | str s =>
    cases c with
    | str z =>
      obtain ⟨h1, h2⟩ := b_and h
      have := of_decide_eq_true h1
      subst this
      exact e_const pe_str fun _ _ _ => .str s (okSb_ok h2)
    | _ => exact b_no h
  | _ => cases c <;> exact b_no h

theorem sndFold {T : Tab} {N : List Str} {env : PySem.Env} : ∀ (it : It) {sc : Scope} {tg e : Expr}, chkIt T N it sc tg e = true → ∀ x, foldedSetIterable e env x = pure x
  | .seq a, sc, tg, e, h => chk_fold h env
  | .rng es, sc, tg, e, h => by
    intro x
    cases e with
    | Set a b c => exact b_no h
    | _ => rfl
  | .enum a, sc, tg, e, h => by
    intro x
    cases e with
    | Set a b c => exact b_no (by cases tg <;> exact h)
    | _ => rfl
mutual
theorem sndE {xC : Xs} {T : Tab} {N : List Str} {k : Nat} {o : Orc} : ∀ (c : C) {X : Cx} {W : WX} {e : Expr}, X.N = N → Lk X xC T k o → Takes X W → chkE T N c X.env.scope e = true → PE X e (tE X.K xC W (evE o c))
  | .var i, X, W, e, hN, L, tk, h => by
    cases e with
    | Name x p =>
      obtain ⟨h1, h2⟩ := b_and h
      obtain ⟨h3, h4⟩ := b_and h1
      obtain ⟨h5, h6⟩ := b_and h2
      exact e_var (by rw [hN]; exact of_decide_eq_true h3) (visB_vis h4) (by simpa using h5) (by simpa using h6)
    | _ => exact b_no h
  | .lit v, X, W, e, hN, L, tk, h => by
    cases e with
    | Constant c j p => exact lit_ok h
    | _ => exact b_no h
  | .gl v, X, W, e, hN, L, tk, h => by
    cases e with
    | Name x p =>
      obtain ⟨h1, h2⟩ := b_and h
      obtain ⟨g1, g2⟩ := globB_gl h1
      obtain ⟨xv, u, hm, r, hv⟩ := L.gl x v (of_decide_eq_true h2)
      exact e_const (pe_glob g1 hm r g2) fun m n H => hv m n H
    | _ => exact b_no h
  | .tup es, X, W, e, hN, L, tk, h => by
    cases e with
    | Tuple es' j p => exact e_tup (sndEs es hN L tk h)
    | _ => exact b_no h
  | .lst own es, X, W, e, hN, L, tk, h => by
    cases e with
    | List es' p => exact e_lst (sndEs es hN L tk h)
    | _ => exact b_no h
  | .bin op a b, X, W, e, hN, L, tk, h => by
    cases e with
    | BinOp l o' r p =>
      obtain ⟨h1, h2⟩ := b_and h
      obtain ⟨h3, h4⟩ := b_and h1
      have := of_decide_eq_true h3
      subst this
      exact e_bin op (sndE a hN L tk h4) (sndE b hN L tk h2)
    | _ => exact b_no h
  | .neg a, X, W, e, hN, L, tk, h => by
    cases e with
    | UnaryOp o' x p =>
      cases o' with
      | USub => exact e_neg (sndE a hN L tk h)
      | _ => exact b_no h
    | _ => exact b_no h
  | .cmp op a b, X, W, e, hN, L, tk, h => by
    cases e with
    | Compare l ops rs p =>
      match ops, rs, h with
      | [o'], [r], h =>
        obtain ⟨h1, h2⟩ := b_and h
        obtain ⟨h3, h4⟩ := b_and h1
        have := of_decide_eq_true h3
        subst this
        exact e_cmp op L.hu (sndE a hN L tk h4) (sndE b hN L tk h2) (chk_mark h2 _)
      | [], _, h => exact b_no h
      | [_], [], h => exact b_no h
      | [_], _ :: _ :: _, h => exact b_no h
      | _ :: _ :: _, _, h => exact b_no h
    | _ => exact b_no h
  | .cmp2 p q a b c, X, W, e, hN, L, tk, h => by
    cases e with
    | Compare l ops rs pp =>
      match ops, rs, h with
      | [o', o2], [r, r2], h =>
        obtain ⟨h1, h2⟩ := b_and h
        obtain ⟨h3, h4⟩ := b_and h1
        obtain ⟨h5, h6⟩ := b_and h3
        obtain ⟨h7, h8⟩ := b_and h5
        have e1 := of_decide_eq_true h7
        have e2 := of_decide_eq_true h8
        subst e1 e2
        exact e_chain p q L.hu (sndE a hN L tk h6) (sndE b hN L tk h4) (sndE c hN L tk h2) (chk_last h2 _ _ _)
      | [], _, h => exact b_no h
      | [_], _, h => exact b_no h
      | [_, _], [], h => exact b_no h
      | [_, _], [_], h => exact b_no h
      | [_, _], _ :: _ :: _ :: _, h => exact b_no h
      | _ :: _ :: _ :: _, _, h => exact b_no h
    | _ => exact b_no h
  | .and es, X, W, e, hN, L, tk, h => by
    cases e with
    | BoolOp o' es' p =>
      cases o' with
      | And =>
        obtain ⟨h1, h2⟩ := b_and h
        exact sndAnd es hN L tk h2 (by intro z; rw [z] at h1; exact b_no h1)
      | Or => exact b_no h
    | _ => exact b_no h
  | .or es, X, W, e, hN, L, tk, h => by
    cases e with
    | BoolOp o' es' p =>
      cases o' with
      | Or =>
        obtain ⟨h1, h2⟩ := b_and h
        exact sndOr es hN L tk h2 (by intro z; rw [z] at h1; exact b_no h1)
      | And => exact b_no h
    | _ => exact b_no h
  | .not a, X, W, e, hN, L, tk, h => by
    cases e with
    | UnaryOp o' x p =>
      cases o' with
      | Not => exact e_not (sndE a hN L tk h)
      | _ => exact b_no h
    | _ => exact b_no h
  | .ite t a b, X, W, e, hN, L, tk, h => by
    cases e with
    | IfExp t' a' b' p =>
      obtain ⟨h1, h2⟩ := b_and h
      obtain ⟨h3, h4⟩ := b_and h1
      exact e_ite (sndT t hN L tk h3) (sndE a hN L tk h4) (sndE b hN L tk h2)
    | _ => exact b_no h
  | .ix a b, X, W, e, hN, L, tk, h => by
    cases e with
    | Subscript l r p =>
      have h : (chkE T N a X.env.scope l && chkE T N b X.env.scope r) = true := h
      obtain ⟨h1, h2⟩ := b_and h
      exact e_ix (sndE a hN L tk h1) (sndE b hN L tk h2) (chk_ix h2)
    | _ => exact b_no h
  | .sl l r a lo hi, X, W, e, hN, L, tk, h => by
    cases e with
    | Subscript x s p =>
      cases s with
      | Slice lo' hi' st p2 =>
        cases st with
        | some _ => exact b_no h
        | none =>
          obtain ⟨h1, h2⟩ := b_and h
          obtain ⟨h3, h4⟩ := b_and h1
          have ha := sndE a hN L tk h3 (W := W)
          have h1 : PO X lo' (tO X.K xC W fun ρ S => if l then (evE o lo ρ S).bind partI else .ok none S) := by
            cases l <;> cases lo' <;> first
              | exact b_no h4
              | exact o_none
              | exact o_some (sndE lo hN L tk h4)
          have h2 : PO X hi' (tO X.K xC W fun ρ S => if r then (evE o hi ρ S).bind partI else .ok none S) := by
            cases r <;> cases hi' <;> first
              | exact b_no h2
              | exact o_none
              | exact o_some (sndE hi hN L tk h2)
          exact e_sl ha h1 h2
      | _ => exact b_no h
    | _ => exact b_no h
  | .call f es, X, W, e, hN, L, tk, h => by
    cases e with
    | Call fe es' kw p =>
      cases fe with
      | Name x p2 =>
        cases kw with
        | cons _ _ => exact b_no h
        | nil =>
          obtain ⟨h1, h2⟩ := b_and h
          obtain ⟨h3, h4⟩ := b_and h1
          obtain ⟨h5, h6⟩ := b_and h3
          obtain ⟨g1, g2⟩ := globB_gl h5
          obtain ⟨h61, h62⟩ := b_and h6
          obtain ⟨fa, fd, ps, F, hk, hb, hm, -⟩ := L.fn f x _ (of_decide_eq_true h61)
          have hm := hm (of_decide_eq_true h62)
          have hA := sndEs es hN L tk h2 (W := W)
          cases es with
          | nil => exact b_no h4
          | cons c cs =>
            cases es' with
            | nil => exact b_no h2
            | cons e' es' =>
              obtain ⟨k1, k2⟩ := b_and (show (chkE T N c X.env.scope e' && chkEs T N cs X.env.scope es') = true from h2)
              exact e_call F tk L.room g1 hm hk hb (fun ρ S vs S' q => evEs_len q) hA g2 (chk_star k1 _ _) (chk_noStar _ _ k2).1
      | _ => exact b_no h
    | _ => exact b_no h
  | .bi b es, X, W, e, hN, L, tk, h => by
    cases e with
    | Call fe es' kw p =>
      cases fe with
      | Name x p2 =>
        cases kw with
        | cons _ _ => exact b_no h
        | nil =>
          obtain ⟨h1, h2⟩ := b_and h
          obtain ⟨h3, h4⟩ := b_and h1
          obtain ⟨h5, h6⟩ := b_and h3
          obtain ⟨h7, h8⟩ := b_and h5
          obtain ⟨g1, g2⟩ := globB_gl h7
          have hA := sndEs es hN L tk h2 (W := W)
          cases es with
          | nil => exact b_no h4
          | cons c cs =>
            cases es' with
            | nil => exact b_no h2
            | cons e' es' =>
              obtain ⟨k1, k2⟩ := b_and (show (chkE T N c X.env.scope e' && chkEs T N cs X.env.scope es') = true from h2)
              exact e_bi b (of_decide_eq_true h8) L.calm g1 (L.bl x (of_decide_eq_true h6)) hA (chk_star k1 _ _) (chk_noStar _ _ k2).1
      | _ => exact b_no h
    | _ => exact b_no h
  | .bm m r es, X, W, e, hN, L, tk, h => by
    cases e with
    | Call fe es' kw p =>
      cases fe with
      | Attribute o' x ap =>
        cases kw with
        | cons _ _ => exact b_no h
        | nil =>
          obtain ⟨h1, h2⟩ := b_and h
          obtain ⟨h3, h4⟩ := b_and h1
          obtain ⟨h5, h6⟩ := b_and h3
          obtain ⟨h7, h8⟩ := b_and h5
          obtain ⟨h9, h10⟩ := b_and h7
          obtain ⟨h11, h12⟩ := b_and h9
          have hR := sndE r hN L tk h8 (W := W)
          have hA := sndEs es hN L tk h2 (W := W)
          have hlen := chk_len h2
          cases es with
          | nil => exact b_no h6
          | cons c cs =>
            cases es' with
            | nil => exact b_no h2
            | cons e' es' =>
              obtain ⟨k1, k2⟩ := b_and (show (chkE T N c X.env.scope e' && chkEs T N cs X.env.scope es') = true from h2)
              have few := of_decide_eq_true h4
              refine e_bm m (of_decide_eq_true h11) hR hA (recv_base h10 _ _) ?_ h12 (chk_star k1 _ _) (chk_noStar _ _ k2).1
              rw [(chk_noStar (cs := c :: cs) X.env p h2).2]
              have : (e' :: es').length + ([] : List Keyword).length + (if ([] : List Keyword).isEmpty then 0 else 1) < 30 := by
                show (e' :: es').length + 0 + 0 < 30
                omega
              rw [decide_eq_true this]
              rfl
      | _ => exact b_no h
    | _ => exact b_no h
  | .isi a t, X, W, e, hN, L, tk, h => by
    cases e with
    | Call fe es' kw p =>
      cases fe with
      | Name x p2 =>
        rcases es' with _ | ⟨a', _ | ⟨y, _ | ⟨z, zs⟩⟩⟩ <;> rcases kw with _ | ⟨kw1, kws⟩
        case cons.cons.nil.nil =>
          cases y with
          | Name y p3 =>
            obtain ⟨h1, h2⟩ := b_and h
            obtain ⟨h3, h4⟩ := b_and h1
            obtain ⟨h5, h6⟩ := b_and h3
            obtain ⟨h7, h8⟩ := b_and h5
            obtain ⟨h9, h10⟩ := b_and h7
            obtain ⟨h11, h12⟩ := b_and h9
            exact e_isi t (of_decide_eq_true h12) (of_decide_eq_true h6) (globB_gl h11).1 (L.bl x (of_decide_eq_true h10)) (globB_gl h8).1 (L.bl y (of_decide_eq_true h4)) (sndE a hN L tk h2) (chk_star h2 _ _)
          | _ => exact b_no h
        case cons.cons.nil.cons => exact b_no (by cases y <;> exact h)
        case cons.cons.cons.nil => exact b_no (by cases y <;> exact h)
        case cons.cons.cons.cons => exact b_no (by cases y <;> exact h)
        all_goals exact b_no h
      | _ => exact b_no h
    | _ => exact b_no h
  | .lc own vs tg it cond elt, X, W, e, hN, L, tk, h => by
    cases e with
    | ListComp elt' gs scope p =>
      match gs, h with
      | [⟨tg', it', ifs, 0⟩], h =>
        obtain ⟨h1, h2⟩ := b_and h
        obtain ⟨h3, h4⟩ := b_and h1
        obtain ⟨h5, h6⟩ := b_and h3
        obtain ⟨h7, h8⟩ := b_and h5
        obtain ⟨h9, h10⟩ := b_and h7
        have hsl : ∀ i ∈ slots tg, i ∈ (ownOf N vs).map (·.2) := fun i hi => by
          rw [ownOf_snd]
          have := List.all_eq_true.mp h6 i hi
          simpa using this
        have ok : BlkOk X.N X.env.scope scope (ownOf N vs) := by rw [hN]; exact blkOk_by h10
        have hi := sndIt it hN L tk h9 (W := W)
        have hfold := sndFold it h9 (T := T) (N := N) (env := X.env)
        have key := e_lc (W := W) own tg L.calm L.nd hi ok hsl
          (fun s H C cl fp => sndTG (X := X.blk s H scope (compEnvC scope cl C X.env) fp) (fn := blkFn scope) hN L.calm L.nd rfl tg tg' h8)
          (fun s H C cl fp => sndCond cond (X := X.blk s H scope (compEnvC scope cl C X.env) fp) hN (L.block s H scope _ fp) takes_none5 h4)
          (fun s H C cl fp => sndE elt (X := X.blk s H scope (compEnvC scope cl C X.env) fp) hN (L.block s H scope _ fp) takes_none5 h2) hfold
        have := (pe_lc L.calm L.nd hi ok
          (fun s H C cl fp => sndTG (X := X.blk s H scope (compEnvC scope cl C X.env) fp) (fn := blkFn scope) hN L.calm L.nd rfl tg tg' h8)
          (fun s H C cl fp => sndCond cond (X := X.blk s H scope (compEnvC scope cl C X.env) fp) hN (L.block s H scope _ fp) takes_none5 h4)
          (fun s H C cl fp => sndE elt (X := X.blk s H scope (compEnvC scope cl C X.env) fp) hN (L.block s H scope _ fp) takes_none5 h2) hfold (pos := p)).imp key
        rw [ownOf_snd] at this
        exact this
    | _ => exact b_no h
  | .app r a, X, W, e, hN, L, tk, h => by
    cases e with
    | Call fe es' kw p =>
      cases fe with
      | Attribute o' x ap =>
        rcases es' with _ | ⟨a', _ | ⟨z, zs⟩⟩ <;> rcases kw with _ | ⟨kw1, kws⟩
        case cons.nil.nil =>
          obtain ⟨h1, h2⟩ := b_and h
          obtain ⟨h3, h4⟩ := b_and h1
          obtain ⟨h5, h6⟩ := b_and h3
          obtain ⟨h7, h8⟩ := b_and h5
          have := of_decide_eq_true h7
          subst this
          have hs := chk_star h2 [] X.env
          refine e_app (sndE r hN L tk h4) (sndE a hN L tk h2) (recv_base h6 _ _) ?_ h8 hs
          rw [hs]
          rfl
        all_goals exact b_no h
      | _ => exact b_no h
    | _ => exact b_no h
  | .pop r, X, W, e, hN, L, tk, h => by
    unfold chkE at h
    split at h
    case h_2 => exact b_no h
    case h_1 =>
      obtain ⟨h, h4⟩ := b_and h
      obtain ⟨h, h3⟩ := b_and h
      obtain ⟨h1, h2⟩ := b_and h
      have := of_decide_eq_true h1
      subst this
      exact e_pop (sndE r hN L tk h4) (recv_base h3 _ _) h2
  | .rev a, X, W, e, hN, L, tk, h => by
    unfold chkE at h
    split at h
    case h_2 => exact b_no h
    case h_1 => exact e_rev (sndE a hN L tk h)
  | .fld c a n, X, W, e, hN, L, tk, h => by
    unfold chkE at h
    split at h
    case h_2 => exact b_no h
    case h_1 =>
      obtain ⟨h, h4⟩ := b_and h
      obtain ⟨h, h3⟩ := b_and h
      obtain ⟨h1, h2⟩ := b_and h
      exact e_fld (of_decide_eq_true h1) (L.fld c n (of_decide_eq_true h2)) (sndE a hN L tk h4) (recv_base h3 _ _)
  | .meth c f n a es, X, W, e, hN, L, tk, h => by
    unfold chkE at h
    split at h
    case h_2 => exact b_no h
    case h_1 o' x ap es' cp =>
      obtain ⟨h, h9⟩ := b_and h
      obtain ⟨h, h8⟩ := b_and h
      obtain ⟨h, h7⟩ := b_and h
      obtain ⟨h, h6⟩ := b_and h
      obtain ⟨h, h5⟩ := b_and h
      obtain ⟨h, h4⟩ := b_and h
      obtain ⟨h, h3⟩ := b_and h
      obtain ⟨h1, h2⟩ := b_and h
      obtain ⟨fx, hf⟩ := npB_of h4
      obtain ⟨fa, fd, ps, F, hk, hb, -, hm⟩ := L.fn f fx _ hf
      obtain ⟨cl, -, -, hm⟩ := hm c n (of_decide_eq_true h2)
      have hm := hm (of_decide_eq_true h3)
      have hx := of_decide_eq_true h1
      subst hx
      have hR := sndE a hN L tk h8 (W := W)
      have hA := sndEs es hN L tk h9 (W := W)
      have hlen := chk_len h9
      cases es with
      | nil =>
        cases es' with
        | nil => exact e_meth0 rfl tk hR cl hm F L.room hb (recv_base h6 _ _) h5
        | cons _ _ => exact b_no h9
      | cons c cs =>
        cases es' with
        | nil => exact b_no h9
        | cons e' es' =>
          obtain ⟨k1, k2⟩ := b_and (show (chkE T N c X.env.scope e' && chkEs T N cs X.env.scope es') = true from h9)
          have few := of_decide_eq_true h7
          refine e_meth rfl tk hR cl hm F L.room hb hA (fun ρ S vs S' q => by rw [evEs_len q]) (chk_star k1 _ _) (chk_noStar _ _ k2).1 (recv_base h6 _ _) ?_ h5
          unfold methodCallForm
          rw [(chk_noStar (cs := c :: cs) X.env cp h9).2]
          have : (e' :: es').length + (if (backToKw cp (keywordEach [] X.env)).isEmpty then 0 else 1) < 30 := by
            show (e' :: es').length + 0 < 30
            omega
          rw [decide_eq_true this]
          rfl
  | .make c f es, X, W, e, hN, L, tk, h => by
    unfold chkE at h
    split at h
    case h_2 => exact b_no h
    case h_1 x p0 es' p =>
      obtain ⟨h, h6⟩ := b_and h
      obtain ⟨h, h5⟩ := b_and h
      obtain ⟨h, h4⟩ := b_and h
      obtain ⟨h, h3⟩ := b_and h
      obtain ⟨h1, h2⟩ := b_and h
      obtain ⟨fx, hf⟩ := npB_of h4
      obtain ⟨fa, fd, ps, F, hk, hb, -, hm⟩ := L.fn f fx _ hf
      obtain ⟨cl, hmg, hm, -⟩ := hm c initN (of_decide_eq_true h3)
      have hm := hm rfl
      have hx := of_decide_eq_true h2
      subst hx
      obtain ⟨g1, g2⟩ := globB_gl h1
      have hA := sndEs es hN L tk h6 (W := W)
      cases es with
      | nil => exact b_no h5
      | cons c' cs =>
        cases es' with
        | nil => exact b_no h6
        | cons e' es' =>
          obtain ⟨k1, k2⟩ := b_and (show (chkE T N c' X.env.scope e' && chkEs T N cs X.env.scope es') = true from h6)
          exact e_make hmg tk hm F L.room1 g1 hb hA (fun ρ S vs S' q => by rw [evEs_len q]) g2 (chk_star k1 _ _) (chk_noStar _ _ k2).1
  | .dlit es, X, W, e, hN, L, tk, h => by
    unfold chkE at h
    split at h
    case h_2 => exact b_no h
    case h_1 ks vs p =>
      obtain ⟨h1, h2⟩ := b_and h
      have key := sndPs es hN L tk h2 (W := W) (pos := p)
      cases es with
      | nil =>
        obtain ⟨k1, k2⟩ := b_and (show (ks.isEmpty && vs.isEmpty) = true from h2)
        have e1 : ks = [] := List.isEmpty_iff.mp k1
        have e2 : vs = [] := List.isEmpty_iff.mp k2
        subst e1 e2
        exact e_dnew
      | cons c cs =>
        obtain ⟨q1, q2, q3, q4⟩ := key
        refine e_dlit q1 q2 q3 ?_ (of_decide_eq_true h1)
        intro z
        rw [z] at q4
        cases q4
  | .dix a b, X, W, e, hN, L, tk, h => by
    unfold chkE at h
    split at h
    case h_2 => exact b_no h
    case h_1 =>
      obtain ⟨h1, h2⟩ := b_and h
      exact e_dix L.hu1 (sndE a hN L tk h1) (sndE b hN L tk h2) (chk_ix h2)
  | .dget a b, X, W, e, hN, L, tk, h => by
    unfold chkE at h
    split at h
    case h_2 => exact b_no h
    case h_1 =>
      obtain ⟨h, h5⟩ := b_and h
      obtain ⟨h, h4⟩ := b_and h
      obtain ⟨h, h3⟩ := b_and h
      obtain ⟨h1, h2⟩ := b_and h
      have := of_decide_eq_true h1
      subst this
      have hs := chk_star h5 [] X.env
      refine e_dget L.hu1 (sndE a hN L tk h4) (sndE b hN L tk h5) ⟨recv_base h3 _ _, ?_, h2, ?_⟩
      · rw [hs]; rfl
      · rw [hs]; rfl
  | .dget2 a b d, X, W, e, hN, L, tk, h => by
    unfold chkE at h
    split at h
    case h_2 => exact b_no h
    case h_1 =>
      obtain ⟨h, h6⟩ := b_and h
      obtain ⟨h, h5⟩ := b_and h
      obtain ⟨h, h4⟩ := b_and h
      obtain ⟨h, h3⟩ := b_and h
      obtain ⟨h1, h2⟩ := b_and h
      have := of_decide_eq_true h1
      subst this
      have hs : starEach [_, _] X.env = _ := (chk_star h5 [_] X.env).trans (congrArg (List.cons _) (chk_star h6 [] X.env))
      refine e_dget2 L.hu1 (sndE a hN L tk h4) (sndE b hN L tk h5) (sndE d hN L tk h6) ⟨recv_base h3 _ _, ?_, h2, ?_⟩
      · rw [hs]; rfl
      · rw [hs]; rfl
  | .din neg b a, X, W, e, hN, L, tk, h => by
    unfold chkE at h
    split at h
    case h_2 => exact b_no h
    case h_1 =>
      obtain ⟨h, h3⟩ := b_and h
      obtain ⟨h1, h2⟩ := b_and h
      have := of_decide_eq_true h1
      subst this
      exact (et_din L.hu1 (sndE b hN L tk h2) (sndE a hN L tk h3) (chk_mark h3 _)).1
  | .gdx d b, X, W, e, hN, L, tk, h => by
    unfold chkE at h
    split at h
    case h_2 => exact b_no h
    case h_1 =>
      obtain ⟨h, h3⟩ := b_and h
      obtain ⟨h1, h2⟩ := b_and h
      obtain ⟨g1, g2⟩ := globB_gl h1
      obtain ⟨ad, hm, D⟩ := L.gd _ d (of_decide_eq_true h2)
      exact e_gdx g1 g2 hm D (sndE b hN L tk h3) (chk_ix h3)
  | .gdin neg d b, X, W, e, hN, L, tk, h => by
    unfold chkE at h
    split at h
    case h_2 => exact b_no h
    case h_1 =>
      obtain ⟨h, h4⟩ := b_and h
      obtain ⟨h, h3⟩ := b_and h
      obtain ⟨h1, h2⟩ := b_and h
      have := of_decide_eq_true h1
      subst this
      obtain ⟨g1, g2⟩ := globB_gl h2
      obtain ⟨ad, hm, D⟩ := L.gd _ d (of_decide_eq_true h3)
      exact (et_gdin g1 g2 hm D (sndE b hN L tk h4)).1
  | .lof a, X, W, e, hN, L, tk, h => by
    unfold chkE at h
    split at h
    case h_2 => exact b_no h
    case h_1 =>
      obtain ⟨h, h4⟩ := b_and h
      obtain ⟨h, h3⟩ := b_and h
      obtain ⟨h1, h2⟩ := b_and h
      exact e_lof (of_decide_eq_true h2) (globB_gl h1).1 (L.bl _ (of_decide_eq_true h3)) (sndE a hN L tk h4) (chk_star h4 _ _)
  | .lrng es, X, W, e, hN, L, tk, h => by
    unfold chkE at h
    split at h
    case h_2 => exact b_no h
    case h_1 x p0 y p1 es' p2 p3 =>
      obtain ⟨h, h8⟩ := b_and h
      obtain ⟨h, h7⟩ := b_and h
      obtain ⟨h, h6⟩ := b_and h
      obtain ⟨h, h5⟩ := b_and h
      obtain ⟨h, h4⟩ := b_and h
      obtain ⟨h, h3⟩ := b_and h
      obtain ⟨h1, h2⟩ := b_and h
      have hA := sndEs es hN L tk h8 (W := W)
      rcases es with _ | ⟨c, _ | ⟨d, _ | ⟨d', cs⟩⟩⟩
      · simp at h7
      · rcases es' with _ | ⟨a, _ | ⟨b, es'⟩⟩
        · exact b_no h8
        · obtain ⟨k1, k2⟩ := b_and (show (chkE T N c X.env.scope a && chkEs T N [] X.env.scope []) = true from h8)
          exact e_lrng (b := a) (of_decide_eq_true h2) (of_decide_eq_true h5) L.calm (globB_gl h1).1 (L.bl x (of_decide_eq_true h3)) (globB_gl h4).1 (L.bl y (of_decide_eq_true h6)) (.inl rfl) hA (chk_star k1 _ _) (fun c z => by cases z)
        · obtain ⟨k1, k2⟩ := b_and (show (chkE T N c X.env.scope a && chkEs T N [] X.env.scope (b :: es')) = true from h8)
          exact b_no k2
      · rcases es' with _ | ⟨a, _ | ⟨b, _ | ⟨b', es'⟩⟩⟩
        · exact b_no h8
        · obtain ⟨k1, k2⟩ := b_and (show (chkE T N c X.env.scope a && chkEs T N [d] X.env.scope []) = true from h8)
          exact b_no k2
        · obtain ⟨k1, k2⟩ := b_and (show (chkE T N c X.env.scope a && chkEs T N [d] X.env.scope [b]) = true from h8)
          obtain ⟨k3, k4⟩ := b_and k2
          refine e_lrng (b := a) (of_decide_eq_true h2) (of_decide_eq_true h5) L.calm (globB_gl h1).1 (L.bl x (of_decide_eq_true h3)) (globB_gl h4).1 (L.bl y (of_decide_eq_true h6)) (.inr ⟨b, rfl⟩) hA ?_ (fun c z => by cases z; exact chk_star k3 _ _)
          rw [chk_star k1, chk_star k3]
          rfl
        · obtain ⟨k1, k2⟩ := b_and (show (chkE T N c X.env.scope a && chkEs T N [d] X.env.scope (b :: b' :: es')) = true from h8)
          obtain ⟨k3, k4⟩ := b_and k2
          exact b_no k4
      · simp at h7
  | .dcnt i a, X, W, e, hN, L, tk, h => by
    unfold chkE at h
    split at h
    case h_2 => exact b_no h
    case h_1 =>
      obtain ⟨h, h11⟩ := b_and h
      obtain ⟨h, h10⟩ := b_and h
      obtain ⟨h, h9⟩ := b_and h
      obtain ⟨h, h8⟩ := b_and h
      obtain ⟨h, h7⟩ := b_and h
      obtain ⟨h, h6⟩ := b_and h
      obtain ⟨h, h5⟩ := b_and h
      obtain ⟨h, h4⟩ := b_and h
      obtain ⟨h, h3⟩ := b_and h
      obtain ⟨h1, h2⟩ := b_and h
      obtain ⟨k1, k2⟩ := b_and h10
      have := of_decide_eq_true h4
      subst this
      exact e_dcnt (of_decide_eq_true h2) L.calm L.nd (by rw [hN]; exact of_decide_eq_true h5) (by rw [hN]; exact blkOk_by h6) (locB_loc h7) (by rw [Bool.or_eq_true, decide_eq_true_eq] at h8; exact h8) (visB_vis h9) (by simpa using k1) (by simpa using k2) (globB_gl h1).1 (L.bl _ (of_decide_eq_true h3)) (sndE a hN L tk h11) (chk_fold h11 X.env)
  | .scnt a, X, W, e, hN, L, tk, h => by
    unfold chkE at h
    split at h
    case h_2 => exact b_no h
    case h_1 =>
      obtain ⟨h, h7⟩ := b_and h
      obtain ⟨h, h6⟩ := b_and h
      obtain ⟨h, h5⟩ := b_and h
      obtain ⟨h, h4⟩ := b_and h
      obtain ⟨h, h3⟩ := b_and h
      obtain ⟨h1, h2⟩ := b_and h
      exact e_scnt (of_decide_eq_true h2) (of_decide_eq_true h5) L.calm (globB_gl h1).1 (L.bl _ (of_decide_eq_true h3)) (globB_gl h4).1 (L.bl _ (of_decide_eq_true h6)) (sndE a hN L tk h7) (chk_star h7 _ _)
  termination_by c => (sizeOf c, 0)
theorem sndPs {xC : Xs} {T : Tab} {N : List Str} {k : Nat} {o : Orc} : ∀ (cs : List C) {X : Cx} {W : WX} {ks : List (Option Expr)} {vs : List Expr} {pos : Pos}, X.N = N → Lk X xC T k o → Takes X W → chkPs T N cs X.env.scope ks vs = true → PPr X xC W pos ks vs (evEs o cs) ∧ ks.all (·.isSome) = true ∧ ks.length = vs.length ∧ 2 * ks.length = cs.length
  | [], X, W, ks, vs, pos, hN, L, tk, h => by
    obtain ⟨k1, k2⟩ := b_and (show (ks.isEmpty && vs.isEmpty) = true from h)
    have e1 : ks = [] := List.isEmpty_iff.mp k1
    have e2 : vs = [] := List.isEmpty_iff.mp k2
    subst e1 e2
    exact ⟨ppr_nil, rfl, rfl, rfl⟩
  | [_], X, W, ks, vs, pos, hN, L, tk, h => b_no h
  | a :: b :: cs, X, W, ks, vs, pos, hN, L, tk, h => by
    unfold chkPs at h
    split at h
    case h_2 => exact b_no h
    case h_1 =>
      obtain ⟨h, h3⟩ := b_and h
      obtain ⟨h1, h2⟩ := b_and h
      obtain ⟨q1, q2, q3, q4⟩ := sndPs cs hN L tk h3 (W := W) (pos := pos)
      refine ⟨ppr_cons (sndE a hN L tk h1) (sndE b hN L tk h2) q1, ?_, ?_, ?_⟩
      · rw [List.all_cons, q2]; rfl
      · rw [List.length_cons, List.length_cons, q3]
      · rw [List.length_cons, List.length_cons, List.length_cons]; omega
  termination_by cs => (sizeOf cs, 0)
theorem sndT {xC : Xs} {T : Tab} {N : List Str} {k : Nat} {o : Orc} : ∀ (c : C) {X : Cx} {W : WX} {e : Expr}, X.N = N → Lk X xC T k o → Takes X W → chkE T N c X.env.scope e = true → PT X e (tT X.K xC W (evE o c)) := by
  intro c X W e hN L tk h
  -- by its value, but for the forms whose truth is asked part by part
  have byVal : (∀ whole, isTrue e X.env whole = (do let v ← whole; standAt e.pos; holding [v] (truthy v))) → PT X e (tT X.K xC W (evE o c)) := fun he => t_val (sndE c hN L tk h) he
  cases e with
  | BoolOp o' es p =>
    cases o' with
    | And =>
      cases c with
      | and cs =>
        obtain ⟨h1, h2⟩ := b_and h
        exact (sndAndW cs hN L tk h2 (by intro z; rw [z] at h1; exact b_no h1)).pt
      | _ => exact b_no h
    | Or =>
      cases c with
      | or cs =>
        obtain ⟨h1, h2⟩ := b_and h
        exact (sndOrW cs hN L tk h2 (by intro z; rw [z] at h1; exact b_no h1)).pt
      | _ => exact b_no h
  | UnaryOp o' x p =>
    cases o' with
    | Not =>
      cases c with
      | not a => exact t_not (sndT a hN L tk h)
      | _ => exact b_no h
    | _ => exact byVal fun _ => rfl
  | IfExp t' a' b' p =>
    cases c with
    | ite t a b =>
      obtain ⟨h1, h2⟩ := b_and h
      obtain ⟨h3, h4⟩ := b_and h1
      exact t_ite (sndT t hN L tk h3) (sndT a hN L tk h4) (sndT b hN L tk h2)
    | _ => exact b_no h
  | Compare l ops rs pp =>
    cases c with
    | cmp op a b =>
      match ops, rs, h with
      | [o'], [r], h =>
        obtain ⟨h1, h2⟩ := b_and h
        obtain ⟨h3, h4⟩ := b_and h1
        have := of_decide_eq_true h3
        subst this
        exact t_cmp op L.hu (sndE a hN L tk h4) (sndE b hN L tk h2) (chk_mark h2 _)
      | [], _, h => exact b_no h
      | [_], [], h => exact b_no h
      | [_], _ :: _ :: _, h => exact b_no h
      | _ :: _ :: _, _, h => exact b_no h
    | cmp2 p q a b c =>
      match ops, rs, h with
      | [o', o2], [r, r2], h =>
        obtain ⟨h1, h2⟩ := b_and h
        obtain ⟨h3, h4⟩ := b_and h1
        obtain ⟨h5, h6⟩ := b_and h3
        obtain ⟨h7, h8⟩ := b_and h5
        have e1 := of_decide_eq_true h7
        have e2 := of_decide_eq_true h8
        subst e1 e2
        exact t_chain p q L.hu (sndE a hN L tk h6) (sndE b hN L tk h4) (sndE c hN L tk h2) (chk_last h2 _ _ _)
      | [], _, h => exact b_no h
      | [_], _, h => exact b_no h
      | [_, _], [], h => exact b_no h
      | [_, _], [_], h => exact b_no h
      | [_, _], _ :: _ :: _ :: _, h => exact b_no h
      | _ :: _ :: _ :: _, _, h => exact b_no h
    | din neg b a =>
      unfold chkE at h
      split at h
      case h_2 => exact b_no h
      case h_1 heq =>
        cases heq
        obtain ⟨h, h3⟩ := b_and h
        obtain ⟨h1, h2⟩ := b_and h
        have := of_decide_eq_true h1
        subst this
        exact (et_din L.hu1 (sndE b hN L tk h2) (sndE a hN L tk h3) (chk_mark h3 _)).2
    | gdin neg d b =>
      unfold chkE at h
      split at h
      case h_2 => exact b_no h
      case h_1 heq =>
        cases heq
        obtain ⟨h, h4⟩ := b_and h
        obtain ⟨h, h3⟩ := b_and h
        obtain ⟨h1, h2⟩ := b_and h
        have := of_decide_eq_true h1
        subst this
        obtain ⟨g1, g2⟩ := globB_gl h2
        obtain ⟨ad, hm, D⟩ := L.gd _ d (of_decide_eq_true h3)
        exact (et_gdin g1 g2 hm D (sndE b hN L tk h4)).2
    | _ => exact b_no h
  | _ => exact byVal fun _ => rfl
  termination_by c => (sizeOf c, 1)
theorem sndEs {xC : Xs} {T : Tab} {N : List Str} {k : Nat} {o : Orc} : ∀ (cs : List C) {X : Cx} {W : WX} {es : List Expr}, X.N = N → Lk X xC T k o → Takes X W → chkEs T N cs X.env.scope es = true → PA X es (tA X.K xC W (evEs o cs))
  | [], X, W, es, hN, L, tk, h => by
    cases es with
    | nil => exact a_nil
    | cons _ _ => exact b_no h
  | c :: cs, X, W, es, hN, L, tk, h => by
    cases es with
    | nil => exact b_no h
    | cons e es =>
      obtain ⟨h1, h2⟩ := b_and h
      exact a_cons (sndE c hN L tk h1) (sndEs cs hN L tk h2) (chk_star h1 _ _)
  termination_by cs => (sizeOf cs, 0)
theorem sndAnd {xC : Xs} {T : Tab} {N : List Str} {k : Nat} {o : Orc} : ∀ (cs : List C) {X : Cx} {W : WX} {es : List Expr} {pos : Pos}, X.N = N → Lk X xC T k o → Takes X W → chkEs T N cs X.env.scope es = true → cs ≠ [] → PE X (.BoolOp .And es pos) (tE X.K xC W (evAnd o cs))
  | [], X, W, es, pos, hN, L, tk, h, hne => absurd rfl hne
  | [c], X, W, es, pos, hN, L, tk, h, hne => by
    rcases es with _ | ⟨e, _ | ⟨e', es⟩⟩
    · exact b_no h
    · obtain ⟨h1, h2⟩ := b_and h
      exact pe_one (sndE c hN L tk h1)
    · obtain ⟨h1, h2⟩ := b_and h
      exact b_no h2
  | c :: d :: cs, X, W, es, pos, hN, L, tk, h, hne => by
    rcases es with _ | ⟨e, _ | ⟨e', es⟩⟩
    · exact b_no h
    · obtain ⟨h1, h2⟩ := b_and h
      exact b_no h2
    · obtain ⟨h1, h2⟩ := b_and h
      exact e_and (sndE c hN L tk h1) (sndAnd (d :: cs) hN L tk h2 (by simp))
  termination_by cs => (sizeOf cs, 0)
theorem sndOr {xC : Xs} {T : Tab} {N : List Str} {k : Nat} {o : Orc} : ∀ (cs : List C) {X : Cx} {W : WX} {es : List Expr} {pos : Pos}, X.N = N → Lk X xC T k o → Takes X W → chkEs T N cs X.env.scope es = true → cs ≠ [] → PE X (.BoolOp .Or es pos) (tE X.K xC W (evOr o cs))
  | [], X, W, es, pos, hN, L, tk, h, hne => absurd rfl hne
  | [c], X, W, es, pos, hN, L, tk, h, hne => by
    rcases es with _ | ⟨e, _ | ⟨e', es⟩⟩
    · exact b_no h
    · obtain ⟨h1, h2⟩ := b_and h
      exact pe_one (sndE c hN L tk h1)
    · obtain ⟨h1, h2⟩ := b_and h
      exact b_no h2
  | c :: d :: cs, X, W, es, pos, hN, L, tk, h, hne => by
    rcases es with _ | ⟨e, _ | ⟨e', es⟩⟩
    · exact b_no h
    · obtain ⟨h1, h2⟩ := b_and h
      exact b_no h2
    · obtain ⟨h1, h2⟩ := b_and h
      exact e_or (sndE c hN L tk h1) (sndOr (d :: cs) hN L tk h2 (by simp))
  termination_by cs => (sizeOf cs, 0)
theorem sndAndW {xC : Xs} {T : Tab} {N : List Str} {k : Nat} {o : Orc} : ∀ (cs : List C) {X : Cx} {W : WX} {es : List Expr} {pos : Pos}, X.N = N → Lk X xC T k o → Takes X W → chkEs T N cs X.env.scope es = true → cs ≠ [] → PW X (.BoolOp .And es pos) (tT X.K xC W (evAnd o cs))
  | [], X, W, es, pos, hN, L, tk, h, hne => absurd rfl hne
  | [c], X, W, es, pos, hN, L, tk, h, hne => by
    rcases es with _ | ⟨e, _ | ⟨e', es⟩⟩
    · exact b_no h
    · obtain ⟨h1, h2⟩ := b_and h
      exact pw_and1 (sndT c hN L tk h1)
    · obtain ⟨h1, h2⟩ := b_and h
      exact b_no h2
  | c :: d :: cs, X, W, es, pos, hN, L, tk, h, hne => by
    rcases es with _ | ⟨e, _ | ⟨e', es⟩⟩
    · exact b_no h
    · obtain ⟨h1, h2⟩ := b_and h
      exact b_no h2
    · obtain ⟨h1, h2⟩ := b_and h
      exact w_and (sndT c hN L tk h1) (sndAndW (d :: cs) hN L tk h2 (by simp))
  termination_by cs => (sizeOf cs, 0)
theorem sndOrW {xC : Xs} {T : Tab} {N : List Str} {k : Nat} {o : Orc} : ∀ (cs : List C) {X : Cx} {W : WX} {es : List Expr} {pos : Pos}, X.N = N → Lk X xC T k o → Takes X W → chkEs T N cs X.env.scope es = true → cs ≠ [] → PW X (.BoolOp .Or es pos) (tT X.K xC W (evOr o cs))
  | [], X, W, es, pos, hN, L, tk, h, hne => absurd rfl hne
  | [c], X, W, es, pos, hN, L, tk, h, hne => by
    rcases es with _ | ⟨e, _ | ⟨e', es⟩⟩
    · exact b_no h
    · obtain ⟨h1, h2⟩ := b_and h
      exact pw_or1 (sndT c hN L tk h1)
    · obtain ⟨h1, h2⟩ := b_and h
      exact b_no h2
  | c :: d :: cs, X, W, es, pos, hN, L, tk, h, hne => by
    rcases es with _ | ⟨e, _ | ⟨e', es⟩⟩
    · exact b_no h
    · obtain ⟨h1, h2⟩ := b_and h
      exact b_no h2
    · obtain ⟨h1, h2⟩ := b_and h
      exact w_or (sndT c hN L tk h1) (sndOrW (d :: cs) hN L tk h2 (by simp))
  termination_by cs => (sizeOf cs, 0)
theorem sndCond {xC : Xs} {T : Tab} {N : List Str} {k : Nat} {o : Orc} : ∀ (cs : List C) {X : Cx} {W : WX} {es : List Expr}, X.N = N → Lk X xC T k o → Takes X W → chkCond T N cs X.env.scope es = true → PTs X es (tCo X.K xC W (evCond o cs))
  | [], X, W, es, hN, L, tk, h => by
    cases es with
    | nil => exact co_nil
    | cons _ _ => exact b_no h
  | [c], X, W, es, hN, L, tk, h => by
    rcases es with _ | ⟨e, _ | ⟨e', es⟩⟩
    · exact b_no h
    · exact co_one (sndT c hN L tk h)
    · exact b_no h
  | c :: d :: cs, X, W, es, hN, L, tk, h => b_no (by
    rcases es with _ | ⟨e, _ | ⟨e', es⟩⟩ <;> exact h)
  termination_by cs => (sizeOf cs, 0)
theorem sndIt {xC : Xs} {T : Tab} {N : List Str} {k : Nat} {o : Orc} : ∀ (it : It) {X : Cx} {W : WX} {tg e : Expr}, X.N = N → Lk X xC T k o → Takes X W → chkIt T N it X.env.scope tg e = true → PI X tg e (tIt X.K xC W (evIt o it))
  | .seq a, X, W, tg, e, hN, L, tk, h => i_seq (sndE a hN L tk h)
  | .rng es, X, W, tg, e, hN, L, tk, h => by
    cases e with
    | Call fe es' kw p =>
      cases fe with
      | Name x p2 =>
        cases kw with
        | cons _ _ => exact b_no h
        | nil =>
          obtain ⟨h1, h2⟩ := b_and h
          obtain ⟨h3, h4⟩ := b_and h1
          obtain ⟨h5, h6⟩ := b_and h3
          obtain ⟨h7, h8⟩ := b_and h5
          have hx := of_decide_eq_true h8
          have hm := L.bl x (of_decide_eq_true h6)
          have hA := sndEs es hN L tk h2 (W := W)
          have hl := chk_len h2
          rcases es with _ | ⟨c, _ | ⟨d, _ | ⟨d', cs⟩⟩⟩
          · simp at h4
          · rcases es' with _ | ⟨a, _ | ⟨b, es'⟩⟩
            · exact b_no h2
            · obtain ⟨k1, k2⟩ := b_and (show (chkE T N c X.env.scope a && chkEs T N [] X.env.scope []) = true from h2)
              exact i_rng1 hx (globB_gl h7).1 hm hA (chk_star k1 _ _) (fun ρ S vs S' q => evEs_len q)
            · obtain ⟨k1, k2⟩ := b_and (show (chkE T N c X.env.scope a && chkEs T N [] X.env.scope (b :: es')) = true from h2)
              exact b_no k2
          · rcases es' with _ | ⟨a, _ | ⟨b, _ | ⟨b', es'⟩⟩⟩
            · exact b_no h2
            · obtain ⟨k1, k2⟩ := b_and (show (chkE T N c X.env.scope a && chkEs T N [d] X.env.scope []) = true from h2)
              exact b_no k2
            · obtain ⟨k1, k2⟩ := b_and (show (chkE T N c X.env.scope a && chkEs T N [d] X.env.scope [b]) = true from h2)
              obtain ⟨k3, k4⟩ := b_and k2
              exact i_rng2 hx (globB_gl h7).1 hm hA (by rw [chk_star k1, chk_star k3]; rfl) (chk_star k3 _ _) (fun ρ S vs S' q => evEs_len q)
            · obtain ⟨k1, k2⟩ := b_and (show (chkE T N c X.env.scope a && chkEs T N [d] X.env.scope (b :: b' :: es')) = true from h2)
              obtain ⟨k3, k4⟩ := b_and k2
              exact b_no k4
          · simp at h4
      | _ => exact b_no h
    | _ => exact b_no h
  | .enum a, X, W, tg, e, hN, L, tk, h => by
    cases tg with
    | Tuple elts kk tpos =>
      cases e with
      | Call fe es' kw p =>
        cases fe with
        | Name x p2 =>
          rcases es' with _ | ⟨a', _ | ⟨z, zs⟩⟩ <;> rcases kw with _ | ⟨kw1, kws⟩
          case cons.nil.nil =>
            obtain ⟨h1, h2⟩ := b_and h
            obtain ⟨h3, h4⟩ := b_and h1
            obtain ⟨h5, h6⟩ := b_and h3
            exact i_enum (of_decide_eq_true h6) (globB_gl h5).1 (L.bl x (of_decide_eq_true h4)) (sndE a hN L tk h2) (chk_star h2 _ _)
          all_goals exact b_no h
        | _ => exact b_no h
      | _ => exact b_no h
    | _ => exact b_no h
  termination_by it => (sizeOf it, 0)
end
end MK

set_option linter.all false
set_option autoImplicit false
set_option Elab.async false
set_option maxRecDepth 100000
set_option maxHeartbeats 4000000
/-! MkTry: try, except clauses with and without a name. -/
namespace MK
open PySem PySem.Spec PyProof.Rows L2

/-- one clause: the class, the slot of its name, what its suite does -/
abbrev Cl := Value × Option Nat × (Addr → Value → Option Addr → TS)
def nmOk (X : Cx) : Option Nat → Option Str → Prop
  | none, none => True
  | some i, some n => X.N[i]? = some n ∧ X.env.kindOf n = some .local
  | _, _ => False
inductive HsOk (X : Cx) : List ExceptHandler → List Cl → Prop
  | nil : HsOk X [] []
  | cons {x : Str} {c : Value} {i : Option Nat} {n : Option Str} {ts : Addr → Value → Option Addr → TS} {b : Stmt} {bs : List Stmt} {np q : Pos} {hds : List ExceptHandler} {l : List Cl} (hc : Names X x c) (hn : nmOk X i n)
      (hsu : ∀ (a : Addr) (oe : Obj) (cls : Value) (d : Option Addr) (pn : List (Addr × Obj)), Zc cls d oe → (∃ vs, oe.data = .fields vs) → PSs (X.suite a ((a, oe) :: pn)) (b :: bs) (ts a cls d)) (r : HsOk X hds l) :
      HsOk X (.ExceptHandler (some (.Name x np)) n (b :: bs) q :: hds) ((c, i, ts) :: l)
/-- the ends of a suite whose name goes -/
def offE (D : Ends) : Option Nat → Ends
  | none => D
  | some i => { nx := fun σ H => D.nx (σ.set i none) H, rt := D.rt, bk := fun σ H => D.bk (σ.set i none) H, ct := fun σ H => D.ct (σ.set i none) H }
def onS (σ : L2.St) (a : Addr) : Option Nat → L2.St
  | none => σ
  | some i => σ.set i (some (.ref a))
def wHs (K : PySem.W.Frag) (Wout : WX) (D : Ends) : List Cl → WX
  | [] => Wout
  | (c, i, ts) :: r => fun cls d σ H => ∃ b, PySem.W.exmOne K cls c = some b ∧ (b = true → ∀ a, H a = none → ts a cls d (offE D i) (onS σ a i) H) ∧ (b = false → wHs K Wout D r cls d σ H)

section
variable {X : Cx} {body : List Stmt} {h0 : ExceptHandler} {hds : List ExceptHandler} {l : List Cl} {pos : Pos} {tb : WX → TS} {Wout : WX}
theorem ps_try_hs (hs : X.stack = X.env :: X.outer) (hf : X.env.frame = some X.env.locals) (hN : X.N.Nodup) (tk : Takes X Wout)
    (hb : ∀ (W : WX) (pn : List (Addr × Obj)) (xe : Value → Shared → Prop), Takes (X.tr pn xe) W → PassesOwn (model X.prog X.w) X.A X.env xe → PSs (X.tr pn xe) body (tb W))
    (hh : HsOk X (h0 :: hds) l) : PS X (.Try body (h0 :: hds) [] [] pos) (fun D σ H => tb (wHs X.K Wout D l) D σ H) := by
  refine ⟨fun pins s σ H D I h => ?_⟩
  have ok := I.ok
  have hfr : X.A.frames = some (X.env :: X.outer) := ok.frames.trans (by rw [hs])
  have bodyRun := (hb (wHs X.K Wout D l) (X.pn ++ pins) (fun e s₁ => wpAny (model X.prog X.w) X.A (noteFrame e X.env) (fun _ s₂ => wpAny (model X.prog X.w) X.A (setFlight e none) (fun _ s₃ =>
    wpAny (model X.prog X.w) X.A (handleBy e X.env (h0 :: hds)) (SP X pins D) X.xe s₃) X.xe s₂) X.xe s₁) (fun u s' xx => ?hcatch) PassesOwn.looking).run [] s σ H D (I.toTry _) h
  case hcatch =>
    obtain ⟨a, B, sI, pins', σ1, H1, cls, d, rfl, J0, nb, up, sky, na, os, ag, w⟩ := xx
    have J : L2.Inv X pins σ1 H1 sI := J0.ofTry ok
    have sky1 : Sky B (X.env :: X.outer) a (Zc cls d) X.env.locals s'.heap := hs ▸ sky
    show wpAny (model X.prog X.w) X.A (noteFrame (.ref a) X.env) _ _ _
    refine Sky.land Zc.steady hfr hf sky1 fun h3 fl3 up3 => ?_
    have up13 := up.trans up3
    have J3 : L2.Inv X pins σ1 H1 { s' with heap := h3 } := J.landed nb fl3.1 up13 os ag
    obtain ⟨oe3, vs3, he3, hz3, hd3⟩ := fl3.there
    have nfr : a ∉ frs (X.env :: X.outer) := fun hm => by
      obtain ⟨_, o1, e1, n1⟩ := fl3.2.2.1.mem hm
      rw [he3] at e1
      cases e1
      exact n1 _ hd3
    have nL : a ≠ X.env.locals := fun z => nfr (List.mem_filterMap.mpr ⟨X.env, List.mem_cons_self, by rw [hf, z]⟩)
    have nF : a ∉ X.fs := fun hm => by
      obtain ⟨e, he, q⟩ := List.mem_filterMap.mp hm
      exact nfr (List.mem_filterMap.mpr ⟨e, List.mem_cons_of_mem _ he, q⟩)
    have S3 := J3.suite he3 hd3 na nL nF
    -- the clauses, one after the other
    have walk : ∀ {hs' : List ExceptHandler} {l' : List Cl}, HsOk X hs' l' → wHs X.K Wout D l' cls d σ1 H1 → wpAny (model X.prog X.w) X.A (handleBy (.ref a) X.env hs') (SP X pins D) X.xe { s' with heap := h3 } := by
      intro hs' l' hk
      induction hk with
      | nil =>
        intro w
        refine wpAny_handleBy_nil ?_
        obtain ⟨k1, k2, k3, oe, vs, T, oT, ts', he, hz, hd, h1, hr⟩ := id fl3
        unfold PySem.passOn
        refine wpAny_bind (wpAny_field he hd h1 ?_)
        rw [if_neg (show ¬ ((Value.ref T == Value.none) = true) from by simp)]
        have out : wpAny (model X.prog X.w) X.A (setFlight (.ref a) X.env.frame) (fun _ s4 => wpAny (model X.prog X.w) X.A (throw (.ref a) : Sem Flow) (SP X pins D) X.xe s4) X.xe { s' with heap := h3 } := by
          rw [hf]
          exact HandSPX.setFlight_upZ fl3 fun h4 hh4 up4 => wpAny_throw (tk _ _ ⟨a, B, sI, pins, σ1, H1, cls, d, rfl, J, nb, up13.trans up4, .inr (.inr (hs.symm ▸ hh4)), na, os, ag, w⟩)
        first
          | exact wpAny_bind (wpAny_pure (wpAny_bind out))
          | exact wpAny_bind out
      | @cons x c i n ts b bs np q hds2 l2 hc hn hsu r ih =>
        intro w
        obtain ⟨yes, hb1, hyes, hno⟩ := w
        refine wpAny_handleBy_cons (codeAny_handlers_test ?_) (fun q => by cases q)
        have LT : PySem.W.Looks (model X.prog X.w) h3 (typeOf (.ref a)) cls := fun A Q E s k q => wpAny_typeOf_ref (k _ _ he3) (by rw [hz3.1]; exact q)
        have LM := PySem.W.exm_one (M := model X.prog X.w) J3.kIn LT hb1
        have named : ∀ {Q E : Value → Shared → Prop}, Q c { s' with heap := h3 } → wpAny (model X.prog X.w) (X.A.mark (some (.ref a))) (eval (.Name x np) X.env) Q E { s' with heap := h3 } := fun {Q E} hq => by
          obtain ⟨hg, hdbg, hm | ⟨hm, hv, hnn⟩⟩ := hc
          · exact ld_glob (X := X.suite a ((a, oe3) :: (X.pn ++ pins))) S3 hg hm hq hdbg
          · exact ld_blt (X := X.suite a ((a, oe3) :: (X.pn ++ pins))) S3 hg hm hv hq hnn hdbg
        refine named (LM.here ?_)
        cases yes with
        | false => exact ih (hno rfl)
        | true =>
          cases i with
          | none =>
            cases n with
            | some n => exact hn.elim
            | none =>
              refine codeAny_handlers_suite (HandSPX.lands_againZ fl3 fun h4 fl4 up4 => ?_)
              have J4 : L2.Inv X pins σ1 H1 { s' with heap := h4 } := J.landed nb fl4.1 (up13.trans up4) os ag
              obtain ⟨oe4, vs4, he4, hz4, hd4⟩ := fl4.there
              have S4 := J4.suite he4 hd4 na nL nF
              refine wpAny_mono ((hsu a oe4 cls d (X.pn ++ pins) hz4 ⟨_, hd4⟩).run [] _ _ H1 _ S4 (hyes rfl a na)) (fun f s6 hsp => ?_) (fun _ _ z => False.elim z)
              cases f with
              | next => obtain ⟨σ6, H6, S6, q6⟩ := hsp; exact ⟨_, _, S6.unsuite ok, q6⟩
              | brk => obtain ⟨σ6, H6, S6, q6⟩ := hsp; exact ⟨_, _, S6.unsuite ok, q6⟩
              | cont => obtain ⟨σ6, H6, S6, q6⟩ := hsp; exact ⟨_, _, S6.unsuite ok, q6⟩
              | ret u => obtain ⟨v6, σ6, H6, S6, r6, q6⟩ := hsp; exact ⟨_, _, _, S6.unsuite ok, r6, q6⟩
          | some i =>
            cases n with
            | none => exact hn.elim
            | some n =>
              obtain ⟨hi, hln⟩ := hn
              refine codeAny_handlers_suite_as (HandSPX.lands_againZ fl3 fun h4 fl4 up4 => ?_)
              have J4 : L2.Inv X pins σ1 H1 { s' with heap := h4 } := J.landed nb fl4.1 (up13.trans up4) os ag
              obtain ⟨oe4, vs4, he4, hz4, hd4⟩ := fl4.there
              have S4 := J4.suite he4 hd4 na nL nF
              refine store_ok (X := X.suite a ((a, oe4) :: (X.pn ++ pins))) (v := .ref a) S4 hN hi (.inl hln) rfl (fun s5 S5 => ?_) (.inr hln)
              refine wpAny_mono ((hsu a oe4 cls d (X.pn ++ pins) hz4 ⟨_, hd4⟩).run [] s5 _ H1 _ S5 (hyes rfl a na)) (fun f s6 hsp => ?_) (fun _ _ z => False.elim z)
              cases f with
              | next => obtain ⟨σ6, H6, S6, q6⟩ := hsp; exact gone_ok (S6.unsuite ok) hN hi hln fun s7 J7 => ⟨_, _, J7, q6⟩
              | brk => obtain ⟨σ6, H6, S6, q6⟩ := hsp; exact gone_ok (S6.unsuite ok) hN hi hln fun s7 J7 => ⟨_, _, J7, q6⟩
              | cont => obtain ⟨σ6, H6, S6, q6⟩ := hsp; exact gone_ok (S6.unsuite ok) hN hi hln fun s7 J7 => ⟨_, _, J7, q6⟩
              | ret u => obtain ⟨v6, σ6, H6, S6, r6, q6⟩ := hsp; exact gone_ok (S6.unsuite ok) hN hi hln fun s7 J7 => ⟨_, _, _, J7, r6, q6⟩
    exact walk hh w
  refine wpAny_Try_except (wpAny_mono bodyRun (fun f s1 hsp => ?_) fun e s1 he => he)
  cases f with
  | next => obtain ⟨σ', H', J', q⟩ := hsp; exact wpAny_execs_nil ⟨σ', H', J'.ofTry ok, q⟩
  | brk => obtain ⟨σ', H', J', q⟩ := hsp; exact ⟨σ', H', J'.ofTry ok, q⟩
  | cont => obtain ⟨σ', H', J', q⟩ := hsp; exact ⟨σ', H', J'.ofTry ok, q⟩
  | ret u => obtain ⟨v, σ', H', J', r, q⟩ := hsp; exact ⟨v, σ', H', J'.ofTry ok, r, q⟩
end

/-! ### the suites of the core -/
def isIS : PV → Bool
  | .int _ => true
  | .str _ => true
  | _ => false
/-- a constant, or one below 0 -/
def chkLit (v : PV) : Expr → Bool
  | .Constant c _ _ => litOk v c
  | .UnaryOp .USub (.Constant (.int i) _ _) _ => match v with
    | .int k => decide (k = -i)
    | _ => false
  | _ => false
/-- x is a class, ks are those below it -/
def isxB (T : Tab) (y : Str) (ks : List Nat) : Bool := match T.exs.findIdx? fun z => z.1 == y with
  | some k => decide (ks = T.subs.getD k [])
  | none => false
/-- HX against a text: n the clause's name, f the field that its class's exceptions bear -/
def chkHX (T : Tab) (sc : Scope) (n f : Option Str) : HX → Expr → Bool
  | .lit v, .Constant c _ _ => litOk v c
  | .fld j, .Attribute (.Name x _) y _ => decide (j = 0) && decide (n = some x) && decide (f = some y) && !(x == ("__debug__" : Str)) && !(x == ("__classdict__" : Str))
  | .ite j v a b, .IfExp (.Compare (.Attribute (.Name x _) y _) [.Eq] [c] _) a' b' _ => decide (j = 0) && decide (n = some x) && decide (f = some y) && !(x == ("__debug__" : Str)) && !(x == ("__classdict__" : Str)) && isIS v && chkLit v c && chkHX T sc n f a a' && chkHX T sc n f b b'
  | .isx _ ks a b, .IfExp (.Call (.Name i _) [.Name x _, .Name y _] [] _) a' b' _ => decide (i = ("isinstance" : Str)) && globB sc i && decide (i ∈ T.blt) && decide (n = some x) && nameOk x && globB sc y && isxB T y ks && chkHX T sc n f a a' && chkHX T sc n f b b'
  | _, _ => false
/-- what is known of the exception within a suite: it lies at a, in the slot i of the name -/
structure HSt (K : PySem.W.Frag) (xC : Xs) (h : Hd) (a : Addr) (cls : Value) (d : Option Addr) (k : Nat) (as : List PV) (σ : L2.St) (H : Hp) : Prop where
  c : cls = .ref (xC.a k) ∧ h.cls.contains k = true ∧ XD xC k as d H
  nm : ∀ i, h.nm = some i → σ[i]? = some (some (.ref a))
def tHX (K : PySem.W.Frag) (xC : Xs) (h : Hd) (a : Addr) (cls : Value) (d : Option Addr) (x : HX) : TE := fun σ H Q => ∃ c as v, HSt K xC h a cls d c as σ H ∧ evHX c as x = some v ∧ Q (flatV v) H
/-- the classes that a clause takes are such whose field can be read -/
def XFldOk (K : PySem.W.Frag) (xC : Xs) (h : Hd) (f : Option Str) : Prop := ∀ y, f = some y → ∀ c, h.cls.contains c = true → xC.f c = some y ∧ XfC K (xC.a c) ∧ PySem.W.findIn K (.ref (xC.a c)) y = some none
theorem pe_lit {X : Cx} {v : PV} {c : Const} {j : Nat} {pos : Pos} (h : litOk v c = true) : PE X (.Constant c j pos) (tC (flatV v)) := by
  cases v with
  | non => cases c <;> first | exact b_no h | exact pe_non
  | bl b =>
    cases c with
    | bool d =>
      have : b = d := beq_iff_eq.mp h
      subst this
      exact pe_bl
    | _ => exact b_no h
  | int i =>
    cases c with
    | int d =>
      have : i = d := beq_iff_eq.mp h
      subst this
      exact pe_int
    | _ => exact b_no h
  | str s =>
    cases c with
    | str z =>
      obtain ⟨h1, h2⟩ := b_and h
      have := of_decide_eq_true h1
      subst this
      exact pe_str
    | _ => exact b_no h
  | _ => cases c <;> exact b_no h
theorem pe_lit2 {X : Cx} {v : PV} {e : Expr} (h : chkLit v e = true) : PE X e (tC (flatV v)) ∧ behindInMarks .Eq e = false := by
  unfold chkLit at h
  split at h
  · exact ⟨pe_lit h, rfl⟩
  · split at h
    · have := of_decide_eq_true h
      subst this
      refine ⟨(pe_un un_neg pe_int).imp fun σ H Q q => ⟨_, rfl, q⟩, rfl⟩
    · cases h
  · cases h
theorem eqv_flat {x v : PV} (hx : xOk x = true) (hv : isIS v = true) : scal (flatV x) (flatV v) = true ∧ decide (flatV x = flatV v) = PV.eqv x v := by
  cases x with
  | int i =>
    cases v with
    | int j => exact ⟨rfl, by show decide (V.int i = V.int j) = (i == j); exact dec_int⟩
    | str t => exact ⟨rfl, rfl⟩
    | _ => exact b_no hv
  | str s =>
    cases v with
    | int j => exact ⟨rfl, rfl⟩
    | str t =>
      refine ⟨rfl, ?_⟩
      show decide (V.str (strV s) = V.str (strV t)) = (s == t)
      by_cases h : s = t
      · subst h; simp
      · rw [decide_eq_false fun e => h (strV_inj (by injection e))]
        simp [h]
    | _ => exact b_no hv
  | _ => exact b_no hx
section
variable {X : Cx} {xC : Xs} {h : Hd} {a : Addr} {oe : Obj} {cls : Value} {d : Option Addr} {pn : List (Addr × Obj)} {n f : Option Str}
theorem pe_fld0 {y z : Str} {np p : Pos} (hz : Zc cls d oe) (hf : ∃ vs, oe.data = .fields vs) (F : XFldOk X.K xC h f) (hn : ∀ x, n = some x → ∃ i, h.nm = some i ∧ X.N[i]? = some x ∧ X.env.kindOf x = some .local) (e1 : n = some y) (e2 : f = some z) (d1 : (y == ("__debug__" : Str)) = false) (d2 : (y == ("__classdict__" : Str)) = false) :
    PE (X.suite a ((a, oe) :: pn)) (.Attribute (.Name y np) z p) (tHX X.K xC h a cls d (.fld 0)) := by
  obtain ⟨i, hi, hN, hk⟩ := hn y e1
  refine ⟨fun pins s σ H Q I ⟨c, as, v, st, hev, q⟩ => ?_⟩
  obtain ⟨hc, hcc, hx⟩ := st.c
  obtain ⟨k1, k2, k3⟩ := F z e2 c hcc
  refine (pe_xf (C := xC.a c) k2 k3 hz hf (pe_var (X := X.suite a ((a, oe) :: pn)) hN (.inl hk) d1 d2)).run pins s σ H Q I ?_
  refine ⟨.ref a, st.nm i hi, rfl, hc, ?_⟩
  obtain ⟨_, hx⟩ := hx
  cases as with
  | nil => cases hev
  | cons w r =>
    obtain ⟨e, _, _, f', dd, e3, e4, e5⟩ := hx
    rw [k1] at e3
    cases e3
    have : w = v := by
      have hev : (w :: r)[0]? = some v := hev
      simpa using hev
    subst this
    exact ⟨dd, _, flatV w, e4, e5, by simp [List.lookup], q⟩
/-- isinstance(e, C) -/
theorem pe_isx {y z i : Str} {j : Nat} {ks : List Nat} {p0 np zp pp : Pos} (hz : Zc cls d oe) (hf : ∃ vs, oe.data = .fields vs) (hn : ∀ x, n = some x → ∃ i, h.nm = some i ∧ X.N[i]? = some x ∧ X.env.kindOf x = some .local) (e1 : n = some y) (d1 : (y == ("__debug__" : Str)) = false) (d2 : (y == ("__classdict__" : Str)) = false)
    (hi : i = ("isinstance" : Str)) (hg : Gl X i) (hm : X.mg i = none) (hg2 : Gl X z) (hd2 : (z == ("__debug__" : Str)) = false) (hm2 : X.mg z = some (.ref (xC.a j))) (hX : ∀ c, c < xC.n → ExcC X.K (xC.a c) ∧ PySem.W.kitOne X.K (.ref (xC.a c)) (.ref (xC.a j)) = some (ks.contains c)) :
    PE (X.suite a ((a, oe) :: pn)) (.Call (.Name i p0) [.Name y np, .Name z zp] [] pp) (fun σ H Q => ∃ c, HSt X.K xC h a cls d c [] σ H ∧ Q (.bl (ks.contains c)) H) := by
  subst hi
  obtain ⟨k, hk, hN, hl⟩ := hn y e1
  refine ⟨fun pins s σ H Q I ⟨c, st, q⟩ => ?_⟩
  obtain ⟨hc, hcc, hx⟩ := st.c
  obtain ⟨hlt, hd⟩ := hx
  have hd : d = none := hd
  subst hc hd
  obtain ⟨C, ki⟩ := hX c hlt
  refine (pe_callB (X := X.suite a ((a, oe) :: pn)) (call_isE C hz hf) hg hm (by decide +kernel) (pa_cons (pe_var (X := X.suite a ((a, oe) :: pn)) hN (.inl hl) d1 d2) (pa_cons (pe_glob (X := X.suite a ((a, oe) :: pn)) (v := .ref (xC.a j)) hg2 hm2 rfl hd2) pa_nil))).run pins s σ H Q I ?_
  exact ⟨.ref a, st.nm k hk, .ref (xC.a j), .ref (xC.a j), _, rfl, fun u r => r, ki, q⟩
theorem sndHX {T : Tab} (hz : Zc cls d oe) (hf : ∃ vs, oe.data = .fields vs) (F : XFldOk X.K xC h f) (hn : ∀ x, n = some x → ∃ i, h.nm = some i ∧ X.N[i]? = some x ∧ X.env.kindOf x = some .local)
    (hbl : ∀ x, x ∈ T.blt → X.mg x = none) (hX : ∀ z ks, isxB T z ks = true → ∃ j, X.mg z = some (.ref (xC.a j)) ∧ ∀ c, c < xC.n → ExcC X.K (xC.a c) ∧ PySem.W.kitOne X.K (.ref (xC.a c)) (.ref (xC.a j)) = some (ks.contains c)) : ∀ (x : HX) (e : Expr), chkHX T X.env.scope n f x e = true → PE (X.suite a ((a, oe) :: pn)) e (tHX X.K xC h a cls d x)
  | .lit v, e, hc => by
    cases e with
    | Constant c j p => exact (pe_lit hc).imp fun σ H Q ⟨c, as, w, st, hev, q⟩ => by cases hev; exact q
    | _ => exact b_no hc
  | .fld j, e, hc => by
    cases e with
    | Attribute o y p =>
      cases o with
      | Name x np =>
        obtain ⟨hc, c5⟩ := b_and hc
        obtain ⟨hc, c4⟩ := b_and hc
        obtain ⟨hc, c3⟩ := b_and hc
        obtain ⟨c1, c2⟩ := b_and hc
        have := of_decide_eq_true c1
        subst this
        exact pe_fld0 hz hf F hn (of_decide_eq_true c2) (of_decide_eq_true c3) (by simpa using c4) (by simpa using c5)
      | _ => exact b_no hc
    | _ => exact b_no hc
  | .ite j v p q, e, hc => by
    unfold chkHX at hc
    split at hc
    case h_3 x np y ap cc cmp a' b' ip heq =>
      cases heq
      obtain ⟨hc, hq⟩ := b_and hc
      obtain ⟨hc, hp⟩ := b_and hc
      obtain ⟨hc, hl⟩ := b_and hc
      obtain ⟨hc, hv⟩ := b_and hc
      obtain ⟨hc, c5⟩ := b_and hc
      obtain ⟨hc, c4⟩ := b_and hc
      obtain ⟨hc, c3⟩ := b_and hc
      obtain ⟨c1, c2⟩ := b_and hc
      have := of_decide_eq_true c1
      subst this
      have hfld := fun np ap => pe_fld0 (xC := xC) (h := h) (a := a) (oe := oe) (cls := cls) (d := d) (pn := pn) (np := np) (p := ap) hz hf F hn (of_decide_eq_true c2) (of_decide_eq_true c3) (by simpa using c4) (by simpa using c5)
      refine (pe_ifExp (pt_cmpR op_eq (hfld _ _) (pe_lit2 hl).1 (pe_lit2 (X := X) hl).2) (sndHX hz hf F hn hbl hX p _ hp) (sndHX hz hf F hn hbl hX q _ hq)).imp fun σ H Q h0 => ?_
      obtain ⟨c, as, w, st, hev, qq⟩ := h0
      have hev : (match as[0]? with | some x => if PV.eqv x v then evHX c as p else evHX c as q | none => none) = some w := hev
      cases h0 : as[0]? with
      | none => rw [h0] at hev; cases hev
      | some x =>
        rw [h0] at hev
        have hxo : xOk x = true := by
          obtain ⟨_, _, hx⟩ := st.c
          obtain ⟨_, hx⟩ := hx
          cases as with
          | nil => cases h0
          | cons w' r =>
            obtain ⟨_, e, _⟩ := hx
            have : w' = x := by simpa using h0
            rw [← this]
            exact e
        obtain ⟨es, ed⟩ := eqv_flat hxo hv
        refine ⟨c, as, x, st, h0, es, _, rfl, ?_⟩
        rw [ed]
        have hev : (if PV.eqv x v then evHX c as p else evHX c as q) = some w := hev
        show if PV.eqv x v = true then tHX X.K xC h a cls d p σ H Q else tHX X.K xC h a cls d q σ H Q
        by_cases hb : PV.eqv x v = true
        · rw [if_pos hb] at hev ⊢
          exact ⟨c, as, w, st, hev, qq⟩
        · rw [if_neg hb] at hev ⊢
          exact ⟨c, as, w, st, hev, qq⟩
    all_goals first | (exact b_no hc) | (rename_i heq; cases heq)
  | .isx j ks p q, e, hc => by
    unfold chkHX at hc
    split at hc
    case h_4 i ip x np y yp cp a' b' pp heq =>
      cases heq
      obtain ⟨hc, hq⟩ := b_and hc
      obtain ⟨hc, hp⟩ := b_and hc
      obtain ⟨hc, c7⟩ := b_and hc
      obtain ⟨hc, c6⟩ := b_and hc
      obtain ⟨hc, c5⟩ := b_and hc
      obtain ⟨hc, c4⟩ := b_and hc
      obtain ⟨hc, c3⟩ := b_and hc
      obtain ⟨c1, c2⟩ := b_and hc
      obtain ⟨k1, k2⟩ := b_and c5
      obtain ⟨g, hm2, hk⟩ := hX y ks c7
      have ht := pe_isx (xC := xC) (h := h) (a := a) (oe := oe) (cls := cls) (d := d) (pn := pn) (p0 := ip) (np := np) (zp := yp) (pp := cp) hz hf hn (of_decide_eq_true c4) (by simpa using k1) (by simpa using k2) (of_decide_eq_true c1) (globB_gl c2).1 (hbl _ (of_decide_eq_true c3)) (globB_gl c6).1 (globB_gl c6).2 hm2 hk
      refine (pe_ifExp (pt_val ht fun _ => rfl) (sndHX hz hf F hn hbl hX p _ hp) (sndHX hz hf F hn hbl hX q _ hq)).imp fun σ H Q h0 => ?_
      obtain ⟨c, as, w, st, hev, qq⟩ := h0
      cases as with
      | cons _ _ => cases hev
      | nil =>
        have hev : (if ks.contains c then evHX c [] p else evHX c [] q) = some w := hev
        refine ⟨c, st, _, rfl, ?_⟩
        show if ks.contains c = true then tHX X.K xC h a cls d p σ H Q else tHX X.K xC h a cls d q σ H Q
        by_cases hb : ks.contains c = true
        · rw [if_pos hb] at hev ⊢
          exact ⟨c, [], w, st, hev, qq⟩
        · rw [if_neg hb] at hev ⊢
          exact ⟨c, [], w, st, hev, qq⟩
    all_goals first | (exact b_no hc) | (rename_i heq; cases heq)
end
end MK
namespace MK
open PySem PySem.Spec PyProof.Rows L2
def flatB : PV → Bool
  | .non => true
  | .bl _ => true
  | .int _ => true
  | .str s => okSb s
  | _ => false
def litsOk : HX → Bool
  | .lit v => flatB v
  | .fld _ => true
  | .ite _ _ a b => litsOk a && litsOk b
  | .isx _ _ a b => litsOk a && litsOk b
theorem vr_flat {K : PySem.W.Frag} {m : Mp} {n : Nat} {H : Hp} {v : PV} (h : flatB v = true) : VR K m n H v (flatV v) := by
  cases v with
  | non => exact .non
  | bl b => exact .bl b
  | int i => exact .int i
  | str s => exact .str s (okSb_ok h)
  | _ => exact b_no h
theorem vr_evHX {K : PySem.W.Frag} {xC : Xs} {m : Mp} {n : Nat} {H : Hp} {c : Nat} {as : List PV} {d : Option Addr} (hx : XD xC c as d H) : ∀ (x : HX) (v : PV), litsOk x = true → evHX c as x = some v → VR K m n H v (flatV v)
  | .lit w, v, hl, h => by cases h; exact vr_flat hl
  | .fld j, v, hl, h => by
    have h : as[j]? = some v := h
    obtain ⟨_, hx⟩ := hx
    cases as with
    | nil => cases h
    | cons w r =>
      obtain ⟨e, e1, e2, _⟩ := hx
      have : v ∈ w :: r := List.mem_of_getElem? h
      rw [e] at this
      have : v = w := by simpa using this
      subst this
      cases v with
      | int i => exact .int i
      | str s => exact .str s (e2 s rfl)
      | _ => exact b_no e1
  | .ite j w a b, v, hl, h => by
    obtain ⟨l1, l2⟩ := b_and hl
    have h : (match as[j]? with | some x => if PV.eqv x w then evHX c as a else evHX c as b | none => none) = some v := h
    split at h
    · split at h
      · exact vr_evHX hx a v l1 h
      · exact vr_evHX hx b v l2 h
    · cases h
  | .isx j ks a b, v, hl, h => by
    obtain ⟨l1, l2⟩ := b_and hl
    cases as with
    | cons _ _ => cases h
    | nil =>
      have h : (if ks.contains c then evHX c [] a else evHX c [] b) = some v := h
      split at h
      · exact vr_evHX hx a v l1 h
      · exact vr_evHX hx b v l2 h
def tHd (K : PySem.W.Frag) (xC : Xs) (h : Hd) : Addr → Value → Option Addr → TS := fun a cls d D σ H => match h.k with
  | .ret x => tHX K xC h a cls d x σ H D.rt
  | .pass => D.nx σ H
  | .cont => D.ct σ H
def suiteOk (X : Cx) (xC : Xs) (h : Hd) (bs : List Stmt) : Prop := match h.k with
  | .ret x => ∃ e p, bs = [.Return (some e) p] ∧ litsOk x = true ∧ ∀ (a : Addr) (oe : Obj) (cls : Value) (d : Option Addr) (pn : List (Addr × Obj)), Zc cls d oe → (∃ vs, oe.data = .fields vs) → PE (X.suite a ((a, oe) :: pn)) e (tHX X.K xC h a cls d x)
  | .pass => ∃ p, bs = [.Pass p]
  | .cont => ∃ p, bs = [.Continue p]
inductive HsC (X : Cx) (xC : Xs) : List Hd → List ExceptHandler → Prop
  | nil : HsC X xC [] []
  | cons {h : Hd} {j : Nat} {x : Str} {n : Option Str} {bs : List Stmt} {np q : Pos} {hs : List Hd} {hds : List ExceptHandler} (hc : Names X x (.ref (xC.a j)))
      (hcls : ∀ i, i < xC.n → PySem.W.exmOne X.K (.ref (xC.a i)) (.ref (xC.a j)) = some (h.cls.contains i)) (hn : nmOk X h.nm n) (hsu : suiteOk X xC h bs) (r : HsC X xC hs hds) :
      HsC X xC (h :: hs) (.ExceptHandler (some (.Name x np)) n bs q :: hds)
section
variable {X : Cx} {xC : Xs} {W : WX}
theorem hsC_ok : ∀ {hs : List Hd} {hds : List ExceptHandler}, HsC X xC hs hds → ∃ l : List Cl, HsOk X hds l ∧
    ∀ (D : Ends) (c : Nat) (as : List PV) (ρ : Env) (S : Store) (m : Mp) (n0 : Nat) (S0 : Store) (H0 : Hp), OS X.K xC W m S0 H0 D (runH hs c as ρ S) → ∀ m' H' σ', Ext m S0.length H0 m' S.length H' → Good X.K ρ S m' σ' H' → ∀ d, XD xC c as d H' → wHs X.K W D l (.ref (xC.a c)) d σ' H' := by
  intro hs hds hk
  induction hk with
  | nil => exact ⟨[], .nil, fun D c as ρ S m n0 S0 H0 q m' H' σ' e g d hd => q m' H' σ' e g d hd⟩
  | @cons h j x n bs np q hs hds hc hcls hn hsu r ih =>
    obtain ⟨l, h1, h2⟩ := ih
    obtain ⟨kc, knm, kk⟩ := h
    have hb : ∃ b bs', bs = b :: bs' := by
      cases kk with
      | ret x => obtain ⟨e, p, rfl, _⟩ := hsu; exact ⟨_, _, rfl⟩
      | pass => obtain ⟨p, rfl⟩ := hsu; exact ⟨_, _, rfl⟩
      | cont => obtain ⟨p, rfl⟩ := hsu; exact ⟨_, _, rfl⟩
    obtain ⟨b, bs', rfl⟩ := hb
    refine ⟨(.ref (xC.a j), knm, tHd X.K xC ⟨kc, knm, kk⟩) :: l, .cons hc hn (fun a oe cls d pn hz hf => ?_) h1, fun D c as ρ S m n0 S0 H0 q m' H' σ' e g d hd => ?_⟩
    · cases kk with
      | ret x => obtain ⟨e, p, he, _, h3⟩ := hsu; cases he; exact pss_one (ps_ret (h3 a oe cls d pn hz hf))
      | pass => obtain ⟨p, he⟩ := hsu; cases he; exact pss_one ps_pass
      | cont => obtain ⟨p, he⟩ := hsu; cases he; exact pss_one ps_continue
    · refine ⟨_, hcls c hd.1, fun hyes a ha => ?_, fun hno => ?_⟩
      · have q : OS X.K xC W m S0 H0 D (if kc.contains c then evHK c as ⟨kc, knm, kk⟩ ρ S else runH hs c as ρ S) := q
        rw [if_pos hyes] at q
        cases kk with
        | ret x =>
          obtain ⟨e', p, _, hl, _⟩ := hsu
          have q : OS X.K xC W m S0 H0 D (if slotB ρ knm then (match evHX c as x with | some v => .ret v S | none => .bad) else .bad) := q
          by_cases hsl : slotB ρ knm = true
          · rw [if_pos hsl] at q
            cases hv : evHX c as x with
            | none => rw [hv] at q; exact q.elim
            | some v =>
              rw [hv] at q
              have hxd : XD xC c as d H' := hd
              refine ⟨c, as, v, ⟨⟨rfl, hyes, hxd⟩, fun i hi => ?_⟩, hv, ?_⟩
              · have hi : knm = some i := hi
                subst hi
                have : i < ρ.length := of_decide_eq_true hsl
                show (σ'.set i (some (.ref a)))[i]? = _
                rw [List.getElem?_set_self (by rw [← g.env.len]; exact this)]
              · have := q m' H' e g.st _ (vr_evHX hxd x v hl hv)
                cases knm <;> exact this
          · rw [if_neg hsl] at q
            exact q.elim
        | pass =>
          cases knm with
          | none => exact q m' H' σ' e g
          | some i => exact q.elim
        | cont =>
          cases knm with
          | none => exact q m' H' σ' e g
          | some i => exact q.elim
      · have q : OS X.K xC W m S0 H0 D (if kc.contains c then evHK c as ⟨kc, knm, kk⟩ ρ S else runH hs c as ρ S) := q
        rw [if_neg (by rw [hno]; exact Bool.false_ne_true)] at q
        exact h2 D c as ρ S m n0 S0 H0 q m' H' σ' e g d hd
theorem s_try {h0 : ExceptHandler} {hds : List ExceptHandler} {hs : List Hd} {body : List Stmt} {pos : Pos} {u : Env → Store → SOut} (hst : X.stack = X.env :: X.outer) (hfr : X.env.frame = some X.env.locals) (hN : X.N.Nodup) (tk : Takes X W)
    (hb : ∀ (W : WX) (pn : List (Addr × Obj)) (xe : Value → Shared → Prop), Takes (X.tr pn xe) W → PassesOwn (model X.prog X.w) X.A X.env xe → PSs (X.tr pn xe) body (tS X.K xC W u)) (hh : HsC X xC hs (h0 :: hds)) :
    PS X (.Try body (h0 :: hds) [] [] pos) (tS X.K xC W fun ρ S => match u ρ S with
      | .exc c as ρ' S' => runH hs c as ρ' S'
      | r => r) := by
  obtain ⟨l, h1, h2⟩ := hsC_ok (W := W) hh
  refine (ps_try_hs hst hfr hN tk (tb := fun W => tS X.K xC W u) hb h1).imp fun D σ H ⟨ρ, S, m, G, q⟩ => ?_
  refine ⟨ρ, S, m, G, ?_⟩
  dsimp only at q
  generalize u ρ S = o at q
  cases o with
  | next ρ' S' => exact q
  | ret v S' => exact q
  | brk ρ' S' => exact q
  | cont ρ' S' => exact q
  | exc c as ρ' S' => exact fun m' H' σ' e g d hd => h2 D c as ρ' S' m 0 S H q m' H' σ' e g d hd
  | bad => exact q.elim
end
end MK

set_option linter.all false
set_option autoImplicit false
set_option Elab.async false
set_option maxRecDepth 100000
set_option maxHeartbeats 8000000
/-! MkS: statements against the text. -/
namespace MK
open PySem PySem.Spec PyProof.Rows L2

def noStarE : Expr → Bool
  | .Starred .. => false
  | _ => true
theorem any_star (l : List Expr) (p : Expr → Bool) (hp : ∀ e, noStarE e = true → p e = false) (hl : ∀ e ∈ l, noStarE e = true) : ¬ (l.any p = true) := fun h => by
  obtain ⟨e, he, hm⟩ := List.any_eq_true.mp h
  rw [hp e (hl e he)] at hm
  exact Bool.false_ne_true hm
theorem sw_par2 {env : PySem.Env} {x y : Str} {px py pt : Pos} {a b : Expr} {kt k2 : Nat} {pt2 : Pos} (hk : env.scope.kind = .function) (hx : env.scope.names.lookup x = some .local) (hy : env.scope.names.lookup y = some .local)
    (hl : (py.line == px.line) = true) (hxy : ([x, y].eraseDups.length == 2) = true) (ha : noStarE a = true) (hb : noStarE b = true) (hf : [a, b].all (foldedForSure 8) = false) (hc : [a, b].all (constantsAlone 8) = false) :
    swappedStores [.Tuple [.Name x px, .Name y py] kt pt] (.Tuple [a, b] k2 pt2) env = pure (some [x, y]) := by
  have hbk : env.blockKind = .function := by unfold PySem.Env.blockKind; rw [hk]; rfl
  have kx : env.kindOf x = some .local := hx
  have ky : env.kindOf y = some .local := hy
  unfold swappedStores
  have hxy2 : [x, y].eraseDups.length = 2 := by simpa using hxy
  simp only [hbk, kx, ky, hl, hf, hc, hxy2, Expr.pos, List.filterMap, List.head?, Option.map, Option.getD, beq_self_eq_true, Bool.and_self, if_true, Bool.and_true]
  rw [if_neg (by exact Bool.false_ne_true), if_neg (any_star [a, b] _ (fun e h => by cases e <;> first | rfl | exact absurd (show false = true from h) Bool.false_ne_true) (by simp [ha, hb]))]
  rfl
theorem sw_par3 {env : PySem.Env} {x y z : Str} {px py pz pt : Pos} {a b c : Expr} {kt k2 : Nat} {pt2 : Pos} (hk : env.scope.kind = .function) (hx : env.scope.names.lookup x = some .local) (hy : env.scope.names.lookup y = some .local) (hz : env.scope.names.lookup z = some .local)
    (hl : (py.line == px.line) = true) (hl2 : (pz.line == px.line) = true) (hxy : ([x, y, z].eraseDups.length == 3) = true) (ha : noStarE a = true) (hb : noStarE b = true) (hcs : noStarE c = true) (hf : [a, b, c].all (foldedForSure 8) = false) (hc : [a, b, c].all (constantsAlone 8) = false) :
    swappedStores [.Tuple [.Name x px, .Name y py, .Name z pz] kt pt] (.Tuple [a, b, c] k2 pt2) env = pure (some [x, y, z]) := by
  have hbk : env.blockKind = .function := by unfold PySem.Env.blockKind; rw [hk]; rfl
  have kx : env.kindOf x = some .local := hx
  have ky : env.kindOf y = some .local := hy
  have kz : env.kindOf z = some .local := hz
  unfold swappedStores
  have hxy2 : [x, y, z].eraseDups.length = 3 := by simpa using hxy
  simp only [hbk, kx, ky, kz, hl, hl2, hf, hc, hxy2, Expr.pos, List.filterMap, List.head?, Option.map, Option.getD, beq_self_eq_true, Bool.and_self, if_true, Bool.and_true]
  rw [if_neg (by exact Bool.false_ne_true), if_neg (any_star [a, b, c] _ (fun e h => by cases e <;> first | rfl | exact absurd (show false = true from h) Bool.false_ne_true) (by simp [ha, hb, hcs]))]
  rfl
theorem sw_folded {env : PySem.Env} {ts vs : List Expr} {kt k2 : Nat} {pt pt2 : Pos} (hf : vs.all (foldedForSure 8) = true) : swappedStores [.Tuple ts kt pt] (.Tuple vs k2 pt2) env = pure none := by
  unfold swappedStores
  simp only [hf]
  split
  · rfl
  · split
    · rfl
    · split
      · rfl
      · rfl
theorem sw_cell2 {env : PySem.Env} {x y : Str} {px py pt : Pos} {vs : List Expr} {kt k2 : Nat} {pt2 : Pos} (h : (decide (env.scope.names.lookup x = some .local) && decide (env.scope.names.lookup y = some .local)) = false) :
    swappedStores [.Tuple [.Name x px, .Name y py] kt pt] (.Tuple vs k2 pt2) env = pure none := by
  unfold swappedStores
  have h : (decide (env.kindOf x = some .local) && decide (env.kindOf y = some .local)) = false := h
  have hn : ∀ z, (env.kindOf z == some NameKind.local) = decide (env.kindOf z = some .local) := fun z => by
    cases env.kindOf z with
    | none => rfl
    | some k => cases k <;> rfl
  simp only [List.filterMap, hn]
  generalize decide (env.kindOf x = some .local) = a at h
  generalize decide (env.kindOf y = some .local) = b at h
  generalize (px.line == _) = c
  generalize (py.line == _) = d
  cases a <;> cases b <;> cases c <;> cases d <;> first
    | (exact absurd h (by decide))
    | (split
       · rfl
       · split
         · rfl
         · rfl)
theorem sw_other {env : PySem.Env} {ts : List Expr} {kt : Nat} {pt : Pos} {v : Expr} (h : ∀ vs k p, v ≠ .Tuple vs k p) : swappedStores [.Tuple ts kt pt] v env = pure none := by
  cases v <;> first | rfl | exact absurd rfl (h _ _ _)

def notComp : Expr → Bool
  | .ListComp .. | .SetComp .. | .DictComp .. => false
  | _ => true
theorem sw_not {e : Expr} (h : notComp e = true) (t : Option Expr) (l : Nat) (env : PySem.Env) : swapsWith e t l env = pure false := by
  cases e <;> first | rfl | exact absurd (show false = true from h) Bool.false_ne_true
theorem sw_tup (e : Expr) (ts : List Expr) (k : Nat) (p : Pos) (l : Nat) (env : PySem.Env) : swapsWithSole [.Tuple ts k p] e l env = pure false := by
  show swapsWith e (some (.Tuple ts k p)) l env = pure false
  cases e <;> rfl
theorem b_not {b : Bool} (h : (!b) = true) : b = false := by
  cases b
  · rfl
  · exact absurd h (by decide)
theorem sw_cell {e : Expr} {x : Str} {px : Pos} {l : Nat} {env : PySem.Env} (h : env.scope.names.lookup x = some .cell) : swapsWith e (some (.Name x px)) l env = pure false := by
  have kx : env.kindOf x = some .cell := h
  cases e <;> first
    | rfl
    | (unfold swapsWith
       simp only [kx]
       rw [show ((some NameKind.cell == some NameKind.local)) = false from rfl]
       simp only [Bool.and_false, Bool.false_and])
def swLc (sc : Scope) (x : Str) (px : Pos) : Expr → Bool
  | .ListComp _ _ scope p => (px.line == p.line) && !(scope.names.any fun (n, k) => n == x && (k == .local || k == .cell))
  | _ => false
def lcB : C → Bool
  | .lc .. => true
  | _ => false
def eqFn (sc : Scope) : Bool := match sc.kind with | .function => true | _ => false
theorem eqFn_of {sc : Scope} (h : eqFn sc = true) : sc.kind = .function := by
  unfold eqFn at h
  split at h
  · assumption
  · exact absurd h Bool.false_ne_true
/-- what is stored where a tuple is taken apart: all at once -/
def parOk (sc : Scope) : List Expr → List Expr → Bool
  | [.Name x px, .Name y py], [a, b] => eqFn sc && decide (sc.names.lookup x = some .local) && decide (sc.names.lookup y = some .local) && (py.line == px.line) && ([x, y].eraseDups.length == 2) && noStarE a && noStarE b && !([a, b].all (foldedForSure 8)) && !([a, b].all (constantsAlone 8))
  | [.Name x px, .Name y py, .Name z pz], [a, b, c] => eqFn sc && decide (sc.names.lookup x = some .local) && decide (sc.names.lookup y = some .local) && decide (sc.names.lookup z = some .local) && (py.line == px.line) && (pz.line == px.line) && ([x, y, z].eraseDups.length == 3) && noStarE a && noStarE b && noStarE c && !([a, b, c].all (foldedForSure 8)) && !([a, b, c].all (constantsAlone 8))
  | _, _ => false
def notTup : Expr → Bool
  | .Tuple .. => false
  | _ => true
section
variable (T : Tab) (N : List Str)
def chkNm (sc : Scope) : Option Nat → Option Str → Bool
  | none, none => true
  | some i, some y => decide (N[i]? = some y) && decide (sc.names.lookup y = some .local)
  | _, _ => false
def fldX (cls : List Nat) : Option Str := match cls with
  | [k] => match T.exs[k]? with
    | some (_, f) => f
    | none => none
  | _ => none
def chkSuite (sc : Scope) (h : Hd) (n : Option Str) : List Stmt → Bool
  | [.Return (some e) _] => match h.k with
    | .ret x => litsOk x && chkHX T sc n (fldX T h.cls) x e
    | _ => false
  | [.Pass _] => match h.k with
    | .pass => true
    | _ => false
  | [.Continue _] => match h.k with
    | .cont => true
    | _ => false
  | _ => false
def chkHd (sc : Scope) (h : Hd) : ExceptHandler → Bool
  | .ExceptHandler (some (.Name x _)) n bs _ => match T.exs.findIdx? fun z => z.1 == x with
    | some j => decide (h.cls = T.subs.getD j []) && globB sc x && chkNm N sc h.nm n && chkSuite T sc h n bs
    | none => false
  | _ => false
def chkHds (sc : Scope) : List Hd → List ExceptHandler → Bool
  | [], [] => true
  | h :: hs, e :: es => chkHd T N sc h e && chkHds sc hs es
  | _, _ => false
def chkAT : AT → Scope → Expr → Bool
  | .nm i, sc, .Name x _ => decide (N[i]? = some x) && locB sc x
  | .at_ c i f, sc, .Attribute (.Name y _) x _ => decide (x = strV f) && decide ((c, f) ∈ T.flds) && decide (N[i]? = some y) && visB sc y && nameOk y
  | _, _, _ => false
def chkATs : List AT → Scope → List Expr → Bool
  | [], _, [] => true
  | t :: ts, sc, e :: es => chkAT T N t sc e && chkATs ts sc es
  | _, _, _ => false
mutual
def chkS : S → Scope → Stmt → Bool
  | .asg (.nm i) c, sc, .Assign [.Name x px] e p => decide (N[i]? = some x) && locB sc x && chkE T N c sc e && (notComp e || decide (sc.names.lookup x = some .cell) || (eqFn sc && decide (sc.names.lookup x = some .local) && lcB c && swLc sc x px e))
  | .asg (.tp [.nm i, .nm j]) (.tup es), sc, .Assign [.Tuple [.Name x px, .Name y py] kt pt] (.Tuple [a, b] k2 pt2) p => decide (N[i]? = some x) && decide (N[j]? = some y) && decide (i ≠ j) && locB sc x && locB sc y && chkEs T N es sc [a, b] && ([a, b].all (foldedForSure 8) || !(decide (sc.names.lookup x = some .local) && decide (sc.names.lookup y = some .local)) || parOk sc [.Name x px, .Name y py] [a, b])
  | .asg (.tp [.nm i, .nm j, .nm k]) (.tup es), sc, .Assign [.Tuple [.Name x px, .Name y py, .Name z pz] kt pt] (.Tuple [a, b, c] k2 pt2) p => decide (N[i]? = some x) && decide (N[j]? = some y) && decide (N[k]? = some z) && decide (i ≠ j) && decide (i ≠ k) && decide (j ≠ k) && locB sc x && locB sc y && locB sc z && chkEs T N es sc [a, b, c] && ([a, b, c].all (foldedForSure 8) || parOk sc [.Name x px, .Name y py, .Name z pz] [a, b, c])
  | .asg (.tp ts) c, sc, .Assign [.Tuple es kt pt] e p => chkTGs N (fun _ => true) ts sc es && chkE T N c sc e && notTup e
  | .aug i op c, sc, .AugAssign (.Name x px) o e p => decide (o = opOf op) && decide (N[i]? = some x) && locB sc x && chkE T N c sc e
  | .ex c, sc, .Expr e p => notComp e && chkE T N c sc e
  | .ret c, sc, .Return (some e) p => chkE T N c sc e
  | .retN, sc, .Return none p => true
  | .ifs c a b, sc, .If e as bs p => chkE T N c sc e && chkSs a sc as && chkSs b sc bs
  | .for_ t it b, sc, .For tg e body [] p => chkTG N (fun _ => true) t sc tg && chkIt T N it sc tg e && chkSs b sc body
  | .while_ c b, sc, .While e body [] p => chkE T N c sc e && chkSs b sc body
  | .brk, _, .Break _ => true
  | .cont, _, .Continue _ => true
  | .pass, _, .Pass _ => true
  | .dead, _, _ => true
  | .raise k [], sc, .Raise (some (.Call (.Name x p) [.Constant (.str m) j p2] [] cpos)) none pos => decide (T.exs[k]? = some (x, none)) && globB sc x
  | .raise k [c], sc, .Raise (some (.Call (.Name x p) [e] [] cpos)) none pos => (match T.exs[k]? with | some (y, some _) => decide (y = x) | _ => false) && globB sc x && chkE T N c sc e
  | .try_ b hs, sc, .Try body hds [] [] p => chkSs b sc body && !hds.isEmpty && chkHds T N sc hs hds
  | .sfld c a f e, sc, st => match st with
    | .Assign [.Attribute a' x p'] e' p => decide (x = strV f) && decide ((c, f) ∈ T.flds) && chkE T N a sc a' && chkE T N e sc e'
    | _ => false
  | .afld c a f op e, sc, st => match st with
    | .AugAssign (.Attribute a' x p') o e' p => decide (o = opOf op) && decide (x = strV f) && decide ((c, f) ∈ T.flds) && chkE T N a sc a' && chkE T N e sc e'
    | _ => false
  | .dput d k e, sc, st => match st with
    | .Assign [.Subscript d' k' p'] e' p => chkE T N d sc d' && chkE T N k sc k' && chkE T N e sc e'
    | _ => false
  | .sls a lo e, sc, st => match st with
    | .Assign [.Subscript a' (.Slice (some lo') none none p2) p'] e' p => chkE T N a sc a' && chkE T N lo sc lo' && chkE T N e sc e'
    | _ => false
  | .asgA ts e, sc, st => match st with
    | .Assign [.Tuple es kk p'] e' p => chkATs T N ts sc es && chkE T N e sc e' && notTup e'
    | _ => false
  | _, _, _ => false
def chkSs : List S → Scope → List Stmt → Bool
  | [], _, [] => true
  | s :: ss, sc, t :: ts => chkS s sc t && chkSs ss sc ts
  | _, _, _ => false
end
end


theorem sndNm {xC : Xs} {T : Tab} {N : List Str} {k : Nat} {o : Orc} {i : Nat} {c : C} {X : Cx} {W : WX} {x : Str} {px p : Pos} {e : Expr} (hN : X.N = N) (hf : X.fn = (fun _ => true)) (L : Lk X xC T k o) (tk : Takes X W)
    (h : chkS T N (.asg (.nm i) c) X.env.scope (.Assign [.Name x px] e p) = true) : PS X (.Assign [.Name x px] e p) (tS X.K xC W (evS o (.asg (.nm i) c))) := by
  obtain ⟨h1, h2⟩ := b_and h
  obtain ⟨h3, h4⟩ := b_and h1
  obtain ⟨h5, h6⟩ := b_and h3
  have hi : X.N[i]? = some x := by rw [hN]; exact of_decide_eq_true h5
  rw [Bool.or_eq_true, Bool.or_eq_true] at h2
  rcases h2 with (h2 | h2) | h2
  · exact s_set L.nd hi (locB_loc h6) (sndE c hN L tk h4) (sw_not h2 _ _ _) (.inl (by rw [hf]))
  · exact s_set L.nd hi (locB_loc h6) (sndE c hN L tk h4) (sw_cell (of_decide_eq_true h2)) (.inl (by rw [hf]))
  · obtain ⟨k1, k2⟩ := b_and h2
    obtain ⟨k3, k4⟩ := b_and k1
    obtain ⟨k5, k6⟩ := b_and k3
    cases c with
    | lc own vs tg it cond elt =>
      cases e with
      | ListComp elt' gs scope p' =>
        match gs, h4, k2 with
        | [⟨tg', it', ifs, 0⟩], h, k2 =>
          obtain ⟨q1, q2⟩ := b_and k2
          have hsw := sw_true (elt := elt') (gs := [⟨tg', it', ifs, 0⟩]) (l := p.line) (env := X.env) (eqFn_of k5) (of_decide_eq_true k6) q1 (by simpa using q2)
          obtain ⟨h1, h2⟩ := b_and h
          obtain ⟨h3, h4⟩ := b_and h1
          obtain ⟨h5, h6⟩ := b_and h3
          obtain ⟨h7, h8⟩ := b_and h5
          obtain ⟨h9, h10⟩ := b_and h7
          have hsl : ∀ i ∈ slots tg, i ∈ (ownOf N vs).map (·.2) := fun i hi => by
            rw [ownOf_snd]
            have := List.all_eq_true.mp h6 i hi
            simpa using this
          have ok : BlkOk X.N X.env.scope scope (ownOf N vs) := by rw [hN]; exact blkOk_by h10
          have hit := sndIt it hN L tk h9 (W := W)
          have hfold := sndFold it h9 (T := T) (N := N) (env := X.env)
          have key := s_setLc (W := W) own tg L.calm L.nd hi (of_decide_eq_true k6) hsw hit ok hsl
            (fun s H C cl fp => sndTG (X := X.blk s H scope (compEnvC scope cl C X.env) fp) (fn := blkFn scope) hN L.calm L.nd rfl tg tg' h8)
            (fun s H C cl fp => sndCond cond (X := X.blk s H scope (compEnvC scope cl C X.env) fp) hN (L.block s H scope _ fp) takes_none5 h4)
            (fun s H C cl fp => sndE elt (X := X.blk s H scope (compEnvC scope cl C X.env) fp) hN (L.block s H scope _ fp) takes_none5 h2) hfold
          rw [ownOf_snd] at key
          exact key
      | _ => exact b_no h4
    | _ => exact b_no k4
theorem sndTp {xC : Xs} {T : Tab} {N : List Str} {k : Nat} {o : Orc} {ts : List TG} {c : C} {X : Cx} {W : WX} {st : Stmt} (hN : X.N = N) (hf : X.fn = (fun _ => true)) (L : Lk X xC T k o) (tk : Takes X W)
    (h : chkS T N (.asg (.tp ts) c) X.env.scope st = true) : PS X st (tS X.K xC W (evS o (.asg (.tp ts) c))) := by
  unfold chkS at h
  split at h
  case h_2 i j es x px y py kt pt a b k2 pt2 p heq =>
    cases heq
    obtain ⟨h, h2⟩ := b_and h
    obtain ⟨h, he⟩ := b_and h
    obtain ⟨h, ly⟩ := b_and h
    obtain ⟨h, lx⟩ := b_and h
    obtain ⟨h, hij⟩ := b_and h
    obtain ⟨hi, hj⟩ := b_and h
    have hi : X.N[i]? = some x := by rw [hN]; exact of_decide_eq_true hi
    have hj : X.N[j]? = some y := by rw [hN]; exact of_decide_eq_true hj
    have hA := sndEs es hN L tk he (W := W)
    rw [Bool.or_eq_true, Bool.or_eq_true] at h2
    have h3 : ([a, b].all (foldedForSure 8) = true ∨ (!(decide (X.env.scope.names.lookup x = some .local) && decide (X.env.scope.names.lookup y = some .local))) = true) ∨ parOk X.env.scope [.Name x px, .Name y py] [a, b] = true := h2
    rcases h3 with h2 | h2
    · have hg : PG X (.Tuple [.Name x px, .Name y py] kt pt) (gT X.K (.tp [.nm i, .nm j])) := sndTG (N := N) (fn := fun _ => true) hN L.calm L.nd hf (.tp [.nm i, .nm j]) _ (by
        show chkTGs N (fun _ => true) [.nm i, .nm j] X.env.scope [.Name x px, .Name y py] = true
        simp only [chkTGs, chkTG, lx, ly, Bool.true_or, Bool.and_true]
        rw [← hN, hi, hj]
        simp)
      rcases h2 with h2 | h2
      · exact s_asg (e_tup hA) hg (sw_tup _ _ _ _ _ _) (sw_folded h2) rfl
      · exact s_asg (e_tup hA) hg (sw_tup _ _ _ _ _ _) (sw_cell2 (b_not h2)) rfl
    · have h2 : (eqFn X.env.scope && decide (X.env.scope.names.lookup x = some .local) && decide (X.env.scope.names.lookup y = some .local) && (py.line == px.line) && ([x, y].eraseDups.length == 2) && noStarE a && noStarE b && !([a, b].all (foldedForSure 8)) && !([a, b].all (constantsAlone 8))) = true := h2
      obtain ⟨h2, q9⟩ := b_and h2
      obtain ⟨h2, q8⟩ := b_and h2
      obtain ⟨h2, q7⟩ := b_and h2
      obtain ⟨h2, q6⟩ := b_and h2
      obtain ⟨h2, q5⟩ := b_and h2
      obtain ⟨h2, q4⟩ := b_and h2
      obtain ⟨h2, q3⟩ := b_and h2
      obtain ⟨q1, q2⟩ := b_and h2
      exact s_par L.calm L.nd hi hj (of_decide_eq_true hij) (of_decide_eq_true q2) (of_decide_eq_true q3) hA
        (sw_par2 (eqFn_of q1) (of_decide_eq_true q2) (of_decide_eq_true q3) q4 q5 q6 q7 (b_not q8) (b_not q9))
  case h_3 i j k' es x px y py z pz kt pt a b c k2 pt2 p heq =>
    cases heq
    obtain ⟨h, h2⟩ := b_and h
    obtain ⟨h, he⟩ := b_and h
    obtain ⟨h, lz⟩ := b_and h
    obtain ⟨h, ly⟩ := b_and h
    obtain ⟨h, lx⟩ := b_and h
    obtain ⟨h, hjk⟩ := b_and h
    obtain ⟨h, hik⟩ := b_and h
    obtain ⟨h, hij⟩ := b_and h
    obtain ⟨h, hk⟩ := b_and h
    obtain ⟨hi, hj⟩ := b_and h
    have hi : X.N[i]? = some x := by rw [hN]; exact of_decide_eq_true hi
    have hj : X.N[j]? = some y := by rw [hN]; exact of_decide_eq_true hj
    have hk : X.N[k']? = some z := by rw [hN]; exact of_decide_eq_true hk
    have hA := sndEs es hN L tk he (W := W)
    rw [Bool.or_eq_true] at h2
    rcases h2 with h2 | h2
    · have hg : PG X (.Tuple [.Name x px, .Name y py, .Name z pz] kt pt) (gT X.K (.tp [.nm i, .nm j, .nm k'])) := sndTG (N := N) (fn := fun _ => true) hN L.calm L.nd hf (.tp [.nm i, .nm j, .nm k']) _ (by
        show chkTGs N (fun _ => true) [.nm i, .nm j, .nm k'] X.env.scope [.Name x px, .Name y py, .Name z pz] = true
        simp only [chkTGs, chkTG, lx, ly, lz, Bool.true_or, Bool.and_true]
        rw [← hN, hi, hj, hk]
        simp)
      exact s_asg (e_tup hA) hg (sw_tup _ _ _ _ _ _) (sw_folded h2) rfl
    · have h2 : (eqFn X.env.scope && decide (X.env.scope.names.lookup x = some .local) && decide (X.env.scope.names.lookup y = some .local) && decide (X.env.scope.names.lookup z = some .local) && (py.line == px.line) && (pz.line == px.line) && ([x, y, z].eraseDups.length == 3) && noStarE a && noStarE b && noStarE c && !([a, b, c].all (foldedForSure 8)) && !([a, b, c].all (constantsAlone 8))) = true := h2
      obtain ⟨h2, q12⟩ := b_and h2
      obtain ⟨h2, q11⟩ := b_and h2
      obtain ⟨h2, q10⟩ := b_and h2
      obtain ⟨h2, q9⟩ := b_and h2
      obtain ⟨h2, q8⟩ := b_and h2
      obtain ⟨h2, q7⟩ := b_and h2
      obtain ⟨h2, q6⟩ := b_and h2
      obtain ⟨h2, q5⟩ := b_and h2
      obtain ⟨h2, q4⟩ := b_and h2
      obtain ⟨h2, q3⟩ := b_and h2
      obtain ⟨q1, q2⟩ := b_and h2
      exact s_par3 L.calm L.nd hi hj hk (of_decide_eq_true hij) (of_decide_eq_true hik) (of_decide_eq_true hjk) (of_decide_eq_true q2) (of_decide_eq_true q3) (of_decide_eq_true q4) hA
        (sw_par3 (eqFn_of q1) (of_decide_eq_true q2) (of_decide_eq_true q3) (of_decide_eq_true q4) q5 q6 q7 q8 q9 q10 (b_not q11) (b_not q12))
  case h_4 ts' c' es kt pt e p hn1 hn2 heq =>
    cases heq
    obtain ⟨h, h2⟩ := b_and h
    obtain ⟨h, he⟩ := b_and h
    have hg : PG X (.Tuple es kt pt) (gT X.K (.tp ts)) := sndTG (N := N) (fn := fun _ => true) hN L.calm L.nd hf (.tp ts) _ h
    exact s_asg (sndE c hN L tk he) hg (sw_tup _ _ _ _ _ _) (sw_other fun vs k p z => by rw [z] at h2; exact b_no h2) rfl
  all_goals first | (exact b_no h) | (rename_i heq; cases heq)
theorem evRaise {o : Orc} {k : Nat} {c : C} : evS o (.raise k [c]) = fun ρ S => (evE o c ρ S).toS ρ fun v S1 => if xOk v then .exc k [v] ρ S1 else .bad := by
  funext ρ S
  show (evEs o [c] ρ S).toS ρ _ = _
  show ((evE o c ρ S).bind fun v S1 => .ok [v] S1).toS ρ _ = _
  cases evE o c ρ S with
  | ok v S1 =>
    show (if [v].all xOk then _ else _) = _
    rw [show [v].all xOk = xOk v from by simp]
    rfl
  | exc _ _ _ => rfl
  | bad => rfl
theorem sndRaise {xC : Xs} {T : Tab} {N : List Str} {k : Nat} {o : Orc} {j : Nat} {es : List C} {X : Cx} {W : WX} {st : Stmt} (hN : X.N = N) (L : Lk X xC T k o) (tk : Takes X W)
    (h : chkS T N (.raise j es) X.env.scope st = true) : PS X st (tS X.K xC W (evS o (.raise j es))) := by
  unfold chkS at h
  split at h
  case h_16 i x p m j' p2 cpos pos heq =>
    cases heq
    obtain ⟨h1, h2⟩ := b_and h
    have hj := of_decide_eq_true h1
    obtain ⟨e1, e2, e3⟩ := L.ex j x none hj
    have hlt : j < xC.n := by rw [L.xn]; exact (List.getElem?_eq_some_iff.mp hj).1
    exact s_raise hlt rfl L.calm tk (e1.plain rfl) e1.at_ e1.keep e3 (globB_gl h2).1 (globB_gl h2).2
  case h_17 i c x p e cpos pos heq =>
    cases heq
    obtain ⟨h, h3⟩ := b_and h
    obtain ⟨h1, h2⟩ := b_and h
    rw [evRaise]
    split at h1
    case h_1 y f hj =>
      have := of_decide_eq_true h1
      subst this
      obtain ⟨e1, e2, e3⟩ := L.ex j y (some f) hj
      have hlt : j < xC.n := by rw [L.xn]; exact (List.getElem?_eq_some_iff.mp hj).1
      obtain ⟨q1, q2, q3, fI, fd, pr, q4, q5, q6, q7⟩ := e1.own f rfl
      exact s_raiseA hlt rfl e2 L.calm tk q1 q4 q5 q6 (L.room.mono L.two) q7 (globB_gl h2).1 e1.at_ (globB_gl h2).2 (sndE c hN L tk h3) (chk_star h3 [] _)
    all_goals exact b_no h1
  all_goals first | (exact b_no h) | (rename_i heq; cases heq)
theorem isx_of {xC : Xs} {T : Tab} {k : Nat} {o : Orc} {X : Cx} (L : Lk X xC T k o) {z : Str} {ks : List Nat} (h : isxB T z ks = true) : ∃ j, X.mg z = some (.ref (xC.a j)) ∧ ∀ c, c < xC.n → ExcC X.K (xC.a c) ∧ PySem.W.kitOne X.K (.ref (xC.a c)) (.ref (xC.a j)) = some (ks.contains c) := by
  unfold isxB at h
  split at h
  · rename_i j hj
    obtain ⟨hjl, hjx, _⟩ := List.findIdx?_eq_some_iff_getElem.mp hj
    have hjx : (T.exs[j]).1 = z := by simpa using hjx
    have hje : T.exs[j]? = some (z, (T.exs[j]).2) := by rw [List.getElem?_eq_getElem hjl, ← hjx]
    obtain ⟨e1, e2, e3⟩ := L.ex j z _ hje
    have := of_decide_eq_true h
    subst this
    exact ⟨j, e1.at_, fun c hc => L.isx c j hc (by rw [L.xn]; exact hjl)⟩
  · cases h
theorem sndHds {xC : Xs} {T : Tab} {N : List Str} {k : Nat} {o : Orc} {X : Cx} (hN : X.N = N) (L : Lk X xC T k o) : ∀ (hs : List Hd) (hds : List ExceptHandler), chkHds T N X.env.scope hs hds = true → HsC X xC hs hds
  | [], [], _ => .nil
  | [], _ :: _, h => b_no h
  | _ :: _, [], h => b_no h
  | h :: hs, e :: es, hc => by
    obtain ⟨h1, h2⟩ := b_and hc
    have r := sndHds hN L hs es h2
    unfold chkHd at h1
    split at h1
    case h_2 => exact b_no h1
    case h_1 x np n bs q =>
      split at h1
      case h_2 => exact b_no h1
      case h_1 j hj =>
        obtain ⟨h1, c4⟩ := b_and h1
        obtain ⟨h1, c3⟩ := b_and h1
        obtain ⟨c1, c2⟩ := b_and h1
        have hcls := of_decide_eq_true c1
        obtain ⟨hjl, hjx, _⟩ := List.findIdx?_eq_some_iff_getElem.mp hj
        have hjx : (T.exs[j]).1 = x := by simpa using hjx
        have hje : T.exs[j]? = some (x, (T.exs[j]).2) := by rw [List.getElem?_eq_getElem hjl, ← hjx]
        obtain ⟨e1, e2, e3⟩ := L.ex j x _ hje
        have hlt : j < xC.n := by rw [L.xn]; exact hjl
        refine .cons (j := j) ⟨(globB_gl c2).1, (globB_gl c2).2, .inl e1.at_⟩ (fun i hi => by rw [L.exm i j hi hlt, hcls]) ?_ ?_ r
        · cases hm : h.nm with
          | none =>
            cases n with
            | none => exact True.intro
            | some y => rw [hm] at c3; exact b_no c3
          | some i =>
            cases n with
            | none => rw [hm] at c3; exact b_no c3
            | some y =>
              rw [hm] at c3
              obtain ⟨k1, k2⟩ := b_and c3
              exact ⟨by rw [hN]; exact of_decide_eq_true k1, of_decide_eq_true k2⟩
        · have hF : XFldOk X.K xC h (fldX T h.cls) := fun y hy c hcc => by
            unfold fldX at hy
            split at hy
            · rename_i k' hk'
              rw [hk'] at hcc
              have : c = k' := by simpa using hcc
              subst this
              split at hy
              · rename_i z f hz
                subst hy
                obtain ⟨z1, z2, _⟩ := L.ex c z (some y) hz
                obtain ⟨_, w2, w3, _⟩ := z1.own y rfl
                exact ⟨z2, w2, w3⟩
              · cases hy
            · cases hy
          have hnm : ∀ y, n = some y → ∃ i, h.nm = some i ∧ X.N[i]? = some y ∧ X.env.kindOf y = some .local := fun y hy => by
            subst hy
            unfold chkNm at c3
            split at c3
            · rename_i heq; cases heq
            · rename_i i z h3 heq
              cases heq
              obtain ⟨k1, k2⟩ := b_and c3
              exact ⟨i, h3, by rw [hN]; exact of_decide_eq_true k1, of_decide_eq_true k2⟩
            · exact b_no c3
          unfold chkSuite at c4
          unfold suiteOk
          split at c4
          · split at c4
            · rename_i hk
              rw [hk]
              obtain ⟨l1, l2⟩ := b_and c4
              exact ⟨_, _, rfl, l1, fun a oe cls d pn hz hf => sndHX hz hf hF hnm L.bl (fun z ks hk => isx_of L hk) _ _ l2⟩
            · exact b_no c4
          · split at c4
            · rename_i hk
              rw [hk]
              exact ⟨_, rfl⟩
            · exact b_no c4
          · split at c4
            · rename_i hk
              rw [hk]
              exact ⟨_, rfl⟩
            · exact b_no c4
          · exact b_no c4
theorem sndAT {X : Cx} {xC : Xs} {T : Tab} {N : List Str} {k : Nat} {o : Orc} (hN : X.N = N) (L : Lk X xC T k o) (hf : X.fn = (fun _ => true)) : ∀ (t : AT) (e : Expr), chkAT T N t X.env.scope e = true → PG X e (gAT X.K t)
  | .nm i, e, h => by
    cases e with
    | Name x p =>
      obtain ⟨h1, h2⟩ := b_and h
      exact gA_name L.nd (by rw [hN]; exact of_decide_eq_true h1) (locB_loc h2) (.inl (by rw [hf]))
    | _ => exact b_no h
  | .at_ c i f, e, h => by
    cases e with
    | Attribute v x p =>
      cases v with
      | Name y p2 =>
        obtain ⟨h, h5⟩ := b_and h
        obtain ⟨h, h4⟩ := b_and h
        obtain ⟨h, h3⟩ := b_and h
        obtain ⟨h1, h2⟩ := b_and h
        obtain ⟨h6, h7⟩ := b_and h5
        exact gA_at (of_decide_eq_true h1) (L.fld c f (of_decide_eq_true h2)) (by rw [hN]; exact of_decide_eq_true h3) (visB_vis h4) (by simpa using h6) (by simpa using h7)
      | _ => exact b_no h
    | _ => exact b_no h
theorem sndATs {X : Cx} {xC : Xs} {T : Tab} {N : List Str} {k : Nat} {o : Orc} (hN : X.N = N) (L : Lk X xC T k o) (hf : X.fn = (fun _ => true)) : ∀ (ts : List AT) (es : List Expr), chkATs T N ts X.env.scope es = true →
    PGs X es (gATs X.K ts) ∧ (assignEach es X.env).length = ts.length ∧ (assignEach es X.env).findIdx? (·.1) = none
  | [], [], h => ⟨gA_nil, rfl, rfl⟩
  | [], _ :: _, h => b_no h
  | _ :: _, [], h => b_no h
  | t :: ts, e :: es, h => by
    have h : (chkAT T N t X.env.scope e && chkATs T N ts X.env.scope es) = true := h
    rw [Bool.and_eq_true] at h
    have h1 := sndAT hN L hf t e h.1
    obtain ⟨h2, h3, h4⟩ := sndATs hN L hf ts es h.2
    have hs : assignEach (e :: es) X.env = (false, assign e X.env) :: assignEach es X.env := by
      cases e with
      | Starred v p => cases t <;> exact b_no h.1
      | _ => rfl
    refine ⟨gA_cons h1 h2 (by rw [hs]; rfl), by rw [hs, List.length_cons, List.length_cons, h3], ?_⟩
    rw [hs, List.findIdx?_cons, h4]
    rfl
theorem Lk.tr {X : Cx} {xC : Xs} {T : Tab} {k : Nat} {o : Orc} (L : Lk X xC T k o) (pn : List (Addr × Obj)) (xe : Value → Shared → Prop) : Lk (X.tr pn xe) xC T k o :=
  ⟨L.calm, L.nd, L.room1, L.fn, L.fld, L.gd, L.gl, L.bl, L.ex, L.xn, L.exm, L.isx, L.two⟩
/-- a def's body: what leaves it, its frame -/
structure HP (X : Cx) : Prop where
  po : PassesOwn (model X.prog X.w) X.A X.env X.xe
  st : X.stack = X.env :: X.outer
  fr : X.env.frame = some X.env.locals
mutual
theorem sndS {xC : Xs} {T : Tab} {N : List Str} {k : Nat} {o : Orc} : ∀ (s : S) {X : Cx} {W : WX} {st : Stmt}, X.N = N → X.fn = (fun _ => true) → Lk X xC T k o → Takes X W → HP X → chkS T N s X.env.scope st = true → PS X st (tS X.K xC W (evS o s))
  | .asg (.nm i) c, X, W, st, hN, hf, L, tk, hp, h => by
    cases st with
    | Assign ts e p =>
      rcases ts with _ | ⟨t, _ | ⟨t2, ts⟩⟩
      · exact b_no h
      · cases t with
        | Name x px => exact sndNm hN hf L tk h
        | _ => exact b_no h
      · exact b_no (by cases t <;> exact h)
    | _ => exact b_no h
  | .asg (.tp ts) c, X, W, st, hN, hf, L, tk, hp, h => sndTp hN hf L tk h
  | .aug i op c, X, W, st, hN, hf, L, tk, hp, h => by
    cases st with
    | AugAssign tg o' e p =>
      cases tg with
      | Name x px =>
        obtain ⟨h1, h2⟩ := b_and h
        obtain ⟨h3, h4⟩ := b_and h1
        obtain ⟨h5, h6⟩ := b_and h3
        have := of_decide_eq_true h5
        subst this
        exact s_aug op L.nd (by rw [hN]; exact of_decide_eq_true h6) (locB_loc h4) (sndE c hN L tk h2) (.inl (by rw [hf]))
      | _ => exact b_no h
    | _ => exact b_no h
  | .ex c, X, W, st, hN, hf, L, tk, hp, h => by
    cases st with
    | Expr e p =>
      obtain ⟨h1, h2⟩ := b_and h
      exact s_ex (sndE c hN L tk h2) (sw_not h1 _ _ _)
    | _ => exact b_no h
  | .ret c, X, W, st, hN, hf, L, tk, hp, h => by
    cases st with
    | Return v p =>
      cases v with
      | some e => exact s_ret (sndE c hN L tk h)
      | none => exact b_no h
    | _ => exact b_no h
  | .retN, X, W, st, hN, hf, L, tk, hp, h => by
    cases st with
    | Return v p =>
      cases v with
      | some e => exact b_no h
      | none => exact s_retN
    | _ => exact b_no h
  | .ifs c a b, X, W, st, hN, hf, L, tk, hp, h => by
    cases st with
    | If e as bs p =>
      obtain ⟨h1, h2⟩ := b_and h
      obtain ⟨h3, h4⟩ := b_and h1
      exact s_if (sndT c hN L tk h3) (sndSs a hN hf L tk hp h4) (sndSs b hN hf L tk hp h2)
    | _ => exact b_no h
  | .for_ t it b, X, W, st, hN, hf, L, tk, hp, h => by
    cases st with
    | For tg e body els p =>
      cases els with
      | nil =>
        obtain ⟨h1, h2⟩ := b_and h
        obtain ⟨h3, h4⟩ := b_and h1
        exact s_for hp.po L.calm (sndIt it hN L tk h4) (sndTG hN L.calm L.nd hf t tg h3) (sndSs b hN hf L tk hp h2) (sndFold it h4)
      | cons _ _ => exact b_no h
    | _ => exact b_no h
  | .while_ c b, X, W, st, hN, hf, L, tk, hp, h => by
    cases st with
    | While e body els p =>
      cases els with
      | nil =>
        obtain ⟨h1, h2⟩ := b_and h
        exact s_while o.fuel hp.po (sndT c hN L tk h1) (sndSs b hN hf L tk hp h2)
      | cons _ _ => exact b_no h
    | _ => exact b_no h
  | .brk, X, W, st, hN, hf, L, tk, hp, h => by
    cases st with
    | Break p => exact s_brk
    | _ => exact b_no h
  | .cont, X, W, st, hN, hf, L, tk, hp, h => by
    cases st with
    | Continue p => exact s_cont
    | _ => exact b_no h
  | .pass, X, W, st, hN, hf, L, tk, hp, h => by
    cases st with
    | Pass p => exact s_pass
    | _ => exact b_no h
  | .raise j es, X, W, st, hN, hf, L, tk, hp, h => sndRaise hN L tk h
  | .try_ b hs, X, W, st, hN, hf, L, tk, hp, h => by
    cases st with
    | Try body hds els fin p =>
      cases els with
      | cons _ _ => exact b_no h
      | nil =>
        cases fin with
        | cons _ _ => exact b_no h
        | nil =>
          obtain ⟨h1, h3⟩ := b_and h
          obtain ⟨h4, h5⟩ := b_and h1
          cases hds with
          | nil => exact b_no h5
          | cons h0 hds => exact s_try hp.st hp.fr L.nd tk (fun W' pn xe tk' po => sndSs b (X := X.tr pn xe) hN hf (L.tr pn xe) tk' ⟨po, hp.st, hp.fr⟩ h4) (sndHds hN L hs (h0 :: hds) h3)
    | _ => exact b_no h
  | .sfld c a f e, X, W, st, hN, hf, L, tk, hp, h => by
    unfold chkS at h
    split at h
    case h_2 => exact b_no h
    case h_1 =>
      obtain ⟨h, h4⟩ := b_and h
      obtain ⟨h, h3⟩ := b_and h
      obtain ⟨h1, h2⟩ := b_and h
      exact s_fld (of_decide_eq_true h1) (L.fld c f (of_decide_eq_true h2)) (sndE a hN L tk h3) (sndE e hN L tk h4)
  | .afld c a f op e, X, W, st, hN, hf, L, tk, hp, h => by
    unfold chkS at h
    split at h
    case h_2 => exact b_no h
    case h_1 =>
      obtain ⟨h, h5⟩ := b_and h
      obtain ⟨h, h4⟩ := b_and h
      obtain ⟨h, h3⟩ := b_and h
      obtain ⟨h1, h2⟩ := b_and h
      have := of_decide_eq_true h1
      subst this
      exact s_afld op (of_decide_eq_true h2) (L.fld c f (of_decide_eq_true h3)) (sndE a hN L tk h4) (sndE e hN L tk h5)
  | .dput d k e, X, W, st, hN, hf, L, tk, hp, h => by
    unfold chkS at h
    split at h
    case h_2 => exact b_no h
    case h_1 =>
      obtain ⟨h, h3⟩ := b_and h
      obtain ⟨h1, h2⟩ := b_and h
      exact s_dput L.hu1 (sndE d hN L tk h1) (sndE k hN L tk h2) (sndE e hN L tk h3)
  | .sls a lo e, X, W, st, hN, hf, L, tk, hp, h => by
    unfold chkS at h
    split at h
    case h_2 => exact b_no h
    case h_1 =>
      obtain ⟨h, h3⟩ := b_and h
      obtain ⟨h1, h2⟩ := b_and h
      exact s_sls (sndE a hN L tk h1) (sndE lo hN L tk h2) (sndE e hN L tk h3)
  | .asgA ts e, X, W, st, hN, hf, L, tk, hp, h => by
    unfold chkS at h
    split at h
    case h_2 => exact b_no h
    case h_1 =>
      obtain ⟨h, h3⟩ := b_and h
      obtain ⟨h1, h2⟩ := b_and h
      obtain ⟨q1, q2, q3⟩ := sndATs hN L hf ts _ h1
      exact s_asgA L.calm (sndE e hN L tk h2) q1 q2 q3 (sw_other fun vs k p z => by rw [z] at h3; exact b_no h3)
  | .dead, X, W, st, hN, hf, L, tk, hp, h => ⟨fun pins s σ H D I ⟨ρ, S, m, G, q⟩ => q.elim⟩
  termination_by s => sizeOf s
theorem sndSs {xC : Xs} {T : Tab} {N : List Str} {k : Nat} {o : Orc} : ∀ (ss : List S) {X : Cx} {W : WX} {sts : List Stmt}, X.N = N → X.fn = (fun _ => true) → Lk X xC T k o → Takes X W → HP X → chkSs T N ss X.env.scope sts = true → PSs X sts (tS X.K xC W (evSs o ss))
  | [], X, W, sts, hN, hf, L, tk, hp, h => by
    cases sts with
    | nil => exact ss_nil
    | cons _ _ => exact b_no h
  | s :: ss, X, W, sts, hN, hf, L, tk, hp, h => by
    cases sts with
    | nil => exact b_no h
    | cons t ts =>
      obtain ⟨h1, h2⟩ := b_and h
      exact ss_cons (sndS s hN hf L tk hp h1) (sndSs ss hN hf L tk hp h2)
  termination_by ss => sizeOf ss
end
end MK

set_option linter.all false
set_option autoImplicit false
set_option Elab.async false
set_option maxRecDepth 100000
set_option maxHeartbeats 8000000
/-! MkDef: defs, by how deep they call; the law. -/
namespace MK
open PySem PySem.Spec PyProof.Rows L2

section
variable {K : PySem.W.Frag} {m m' m0 : Mp} {n n0 n' : Nat} {H H' H0 : Hp} {S S0 : Store}
mutual
theorem VR.low : ∀ {x : PV} {v : V}, VR K m n H x v → x.under n = true
  | _, _, .non => rfl
  | _, _, .bl b => rfl
  | _, _, .int i => rfl
  | _, _, .str s h => rfl
  | _, _, .tup h r => by show PV.underAll n _ = true; exact VRs.low r
  | _, _, .lst h r => by show PV.underAll n _ = true; exact VRs.low r
  | _, _, .ref h => decide_eq_true h
  | _, _, .ty t => rfl
theorem VRs.low : ∀ {x : List PV} {v : List V}, VRs K m n H x v → PV.underAll n x = true
  | _, _, .nil => rfl
  | _, _, .cons r t => by show (PV.under n _ && PV.underAll n _) = true; rw [VR.low r, VRs.low t]; rfl
end
mutual
theorem VR.crop : ∀ {x : PV} {v : V}, x.under n0 = true → VR K m n H x v → VR K m n0 H x v
  | _, _, _, .non => .non
  | _, _, _, .bl b => .bl b
  | _, _, _, .int i => .int i
  | _, _, _, .str s h => .str s h
  | _, _, u, .tup h r => .tup h (VRs.crop u r)
  | _, _, u, .lst h r => .lst h (VRs.crop u r)
  | _, _, u, .ref h => .ref (of_decide_eq_true u)
  | _, _, _, .ty t => .ty t
theorem VRs.crop : ∀ {x : List PV} {v : List V}, PV.underAll n0 x = true → VRs K m n H x v → VRs K m n0 H x v
  | _, _, _, .nil => .nil
  | _, _, u, .cons r t => by
    obtain ⟨u1, u2⟩ := b_and u
    exact .cons (VR.crop u1 r) (VRs.crop u2 t)
end
/-- what was new is forgotten, and changed no more -/
def old (m m0 : Mp) : Mp := ⟨m.at_, m0.Z⟩
theorem Ext.crop (ex : Ext m0 n0 H0 m n H) : Ext m0 n0 H0 (old m m0) n0 H := ⟨ex.z0, Nat.le_refl _, ex.emb, ex.keep, fun _ h => h, fun _ h k => absurd h k, fun k h1 h2 => absurd (Nat.lt_of_lt_of_le h2 h1) (Nat.lt_irrefl _)⟩
theorem frzL_ok {f : PV → Option PV} (hf : ∀ (x y : PV) (v : V), f x = some y → VR K m n H x v → VR K m0 n0 H y v) : ∀ (xs ys : List PV) (vs : List V), frzL f xs = some ys → VRs K m n H xs vs → VRs K m0 n0 H ys vs
  | [], ys, vs, h, r => by cases r; cases h; exact .nil
  | x :: xs, ys, vs, h, r => by
    cases r with
    | cons r1 r2 =>
      have h : (match f x, frzL f xs with | some y, some ys => some (y :: ys) | _, _ => none) = some ys := h
      split at h
      · rename_i y ys' h1 h2
        cases h
        exact .cons (hf _ _ _ h1 r1) (frzL_ok hf xs _ _ h2 r2)
      · cases h
theorem frz_ok (ex : Ext m0 n0 H0 m S.length H) (st : StoreR K S m H) : ∀ (d : Nat) (x y : PV) (v : V), frz S n0 d x = some y → VR K m S.length H x v → VR K (old m m0) n0 H y v
  | 0, x, y, v, h, r => by
    cases r with
    | non => cases h; exact .non
    | bl b => cases h; exact .bl b
    | int i => cases h; exact .int i
    | str s hs => cases h; exact .str s hs
    | ty t => cases h; exact .ty t
    | tup hq rs => cases h
    | lst hq rs => cases h
    | ref hk => cases h
  | d + 1, x, y, v, h, r => by
    cases r with
    | non => cases h; exact .non
    | bl b => cases h; exact .bl b
    | int i => cases h; exact .int i
    | str s hs => cases h; exact .str s hs
    | ty t => cases h; exact .ty t
    | tup hq rs =>
      obtain ⟨zs, hz, rfl⟩ := Option.map_eq_some_iff.mp (show (frzL (frz S n0 d) _).map PV.tup = some y from h)
      exact .tup hq (frzL_ok (frz_ok ex st d) _ _ _ hz rs)
    | lst hq rs =>
      obtain ⟨zs, hz, rfl⟩ := Option.map_eq_some_iff.mp (show (frzL (frz S n0 d) _).map PV.lst = some y from h)
      exact .lst (hq.imp (fun q => ⟨q.1, fun z => q.2 (ex.sub _ z)⟩) id) (frzL_ok (frz_ok ex st d) _ _ _ hz rs)
    | @ref k hk =>
      have h : (if k < n0 then some (PV.ref k) else match S[k]? with | some (.lst xs) => (frzL (frz S n0 d) xs).map .lst | _ => none) = some y := h
      split at h
      · rename_i hlt
        cases h
        exact .ref (m := old m m0) hlt
      · rename_i hge
        split at h
        · rename_i xs hx
          obtain ⟨zs, hz, rfl⟩ := Option.map_eq_some_iff.mp h
          obtain ⟨vs, e, rs⟩ := st.cell k _ hx
          exact .lst (.inl ⟨.inl e, (ex.new k (Nat.le_of_not_lt hge) hk).1⟩) (frzL_ok (frz_ok ex st d) _ _ _ hz rs)
        · cases h
theorem StoreR.cut (st0 : StoreR K S0 m0 H0) (st : StoreR K S m H) (ex : Ext m0 S0.length H0 m S.length H) (h : S.take S0.length = S0) : StoreR K S0 (old m m0) H where
  inj := fun j k hj hk e => st.inj j k (Nat.lt_of_lt_of_le hj ex.le) (Nat.lt_of_lt_of_le hk ex.le) e
  cell := fun k c hc => by
    have hk : k < S0.length := (List.getElem?_eq_some_iff.mp hc).1
    have hc2 : S[k]? = Option.some c := by
      have : (S.take S0.length)[k]? = Option.some c := by rw [h]; exact hc
      rw [List.getElem?_take] at this
      rwa [if_pos hk] at this
    have q := st.cell k c hc2
    have q0 := st0.cell k c hc
    cases c with
    | lst xs =>
      obtain ⟨vs, e, r⟩ := q
      obtain ⟨vs0, e0, r0⟩ := q0
      exact ⟨vs, e, VRs.re (m := m) (m' := old m m0) (Nat.le_refl _) (fun _ _ => rfl) (fun (a : Addr) (z : m0.Z a) => ex.sub a z) (VRs.crop (VRs.low r0) r)⟩
    | dic ks us =>
      obtain ⟨kvs, e, k, r⟩ := q
      obtain ⟨_, _, _, r0⟩ := q0
      exact ⟨kvs, e, k, VRs.re (m := m) (m' := old m m0) (Nat.le_refl _) (fun _ _ => rfl) (fun (a : Addr) (z : m0.Z a) => ex.sub a z) (VRs.crop (VRs.low r0) r)⟩
    | ins c fs =>
      obtain ⟨dx, fvs, e, k, r⟩ := q
      obtain ⟨_, _, _, _, r0⟩ := q0
      exact ⟨dx, fvs, e, k, VRs.re (m := m) (m' := old m m0) (Nat.le_refl _) (fun _ _ => rfl) (fun (a : Addr) (z : m0.Z a) => ex.sub a z) (VRs.crop (VRs.low r0) r)⟩
  inZ := fun k hk => by show m0.Z (m.at_ k); rw [ex.emb k hk]; exact ex.z0 k hk
  kind := fun a z => st.kind a (ex.sub a z)
end

section
variable {K : PySem.W.Frag} {m m0 : Mp} {H H0 : Hp} {S S0 : Store}
theorem lowS_len (h : lowS S0.length S = true) : (S.take S0.length).length = S0.length := by
  unfold lowS at h
  rw [Bool.and_eq_true, decide_eq_true_eq] at h
  rw [List.length_take]
  exact Nat.min_eq_left h.1
theorem StoreR.cutG (st : StoreR K S m H) (ex : Ext m0 S0.length H0 m S.length H) (h : lowS S0.length S = true) : StoreR K (S.take S0.length) (old m m0) H := by
  have hl := lowS_len h
  unfold lowS at h
  rw [Bool.and_eq_true, decide_eq_true_eq] at h
  refine ⟨fun j k hj hk e => ?_, fun k c hc => ?_, fun k hk => ?_, fun a z => st.kind a (ex.sub a z)⟩
  · rw [hl] at hj hk
    exact st.inj j k (Nat.lt_of_lt_of_le hj ex.le) (Nat.lt_of_lt_of_le hk ex.le) e
  · have hk : k < S0.length := by have := (List.getElem?_eq_some_iff.mp hc).1; rwa [hl] at this
    have hlow := List.all_eq_true.mp h.2 c (List.mem_of_getElem? hc)
    rw [List.getElem?_take, if_pos hk] at hc
    have q := st.cell k c hc
    rw [hl]
    cases c with
    | lst xs =>
      obtain ⟨vs, e, r⟩ := q
      exact ⟨vs, e, VRs.re (m := m) (m' := old m m0) (Nat.le_refl _) (fun _ _ => rfl) (fun (a : Addr) (z : m0.Z a) => ex.sub a z) (VRs.crop hlow r)⟩
    | dic ks us =>
      obtain ⟨kvs, e, k, r⟩ := q
      exact ⟨kvs, e, k, VRs.re (m := m) (m' := old m m0) (Nat.le_refl _) (fun _ _ => rfl) (fun (a : Addr) (z : m0.Z a) => ex.sub a z) (VRs.crop hlow r)⟩
    | ins c fs =>
      obtain ⟨dx, fvs, e, k, r⟩ := q
      exact ⟨dx, fvs, e, k, VRs.re (m := m) (m' := old m m0) (Nat.le_refl _) (fun _ _ => rfl) (fun (a : Addr) (z : m0.Z a) => ex.sub a z) (VRs.crop hlow r)⟩
  · rw [hl] at hk
    show m0.Z (m.at_ k)
    rw [ex.emb k hk]
    exact ex.z0 k hk
end

section
variable {K : PySem.W.Frag} {xC : Xs}
/-- a def's end, what was there changed -/
theorem finG_ok {m : Mp} {S : Store} {H : Hp} {σ : L2.St} {Q : VK} {E : XK} (st : StoreR K S m H) : ∀ {o : SOut},
    OP K xC (fun c d _ H' => E c d H') σ m S H (fun v S' m' H' => ∀ x, VR K m' S'.length H' v x → Q x H') (finG S o) →
    OS K xC (fun c d _ H' => E c d H') m S H { nx := fun _ H' => Q .non H', rt := Q } o := by
  have key : ∀ (v : PV) (S' : Store), OP K xC (fun c d _ H' => E c d H') σ m S H (fun v S' m' H' => ∀ x, VR K m' S'.length H' v x → Q x H') (closeG S v S') →
      ∀ m' H', Ext m S.length H m' S'.length H' → StoreR K S' m' H' → ∀ x, VR K m' S'.length H' v x → Q x H' := by
    intro v S' h m' H' ex s' x r
    unfold closeG at h
    split at h
    · rename_i v' hv
      split at h
      · rename_i h2
        refine h (old m' m) H' ?_ (StoreR.cutG s' ex h2) x ?_
        · rw [lowS_len h2]; exact ex.crop
        · rw [lowS_len h2]; exact frz_ok ex s' 60 _ _ _ hv r
      · exact h.elim
    · exact h.elim
  intro o h
  cases o with
  | ret v S' => exact key v S' h
  | next ρ' S' => exact fun m' H' σ' ex g => key .non S' h m' H' ex g.st _ .non
  | brk ρ' S' => exact h.elim
  | cont ρ' S' => exact h.elim
  | exc c as ρ' S' =>
    intro m' H' σ' ex g
    have h : OP K xC (fun c d _ H' => E c d H') σ m S H (fun v S' m' H' => ∀ x, VR K m' S'.length H' v x → Q x H') (if lowS S.length S' = true then .exc c as (S'.take S.length) else .bad) := h
    split at h
    · rename_i h2
      refine h (old m' m) H' ?_ (StoreR.cutG g.st ex h2)
      rw [lowS_len h2]; exact ex.crop
    · exact h.elim
  | bad => exact h.elim
/-- a def's end -/
theorem fin_ok {trunc : Bool} {m : Mp} {S : Store} {H : Hp} {σ : L2.St} {Q : VK} {E : XK} (st : StoreR K S m H) : ∀ {o : SOut},
    OP K xC (fun c d _ H' => E c d H') σ m S H (fun v S' m' H' => ∀ x, VR K m' S'.length H' v x → Q x H') (fin trunc S o) →
    OS K xC (fun c d _ H' => E c d H') m S H { nx := fun _ H' => Q .non H', rt := Q } o := by
  have key : ∀ (v : PV) (S' : Store), OP K xC (fun c d _ H' => E c d H') σ m S H (fun v S' m' H' => ∀ x, VR K m' S'.length H' v x → Q x H') (close trunc S v S') →
      ∀ m' H', Ext m S.length H m' S'.length H' → StoreR K S' m' H' → ∀ x, VR K m' S'.length H' v x → Q x H' := by
    intro v S' h m' H' ex s' x r
    unfold close at h
    cases trunc with
    | false => exact h m' H' ex s' x r
    | true =>
      simp only [if_true] at h
      split at h
      · rename_i v' hv
        split at h
        · rename_i h2
          exact h _ H' ex.crop (StoreR.cut st s' ex h2) x (frz_ok ex s' 60 _ _ _ hv r)
        · exact h.elim
      · exact h.elim
  intro o h
  cases o with
  | ret v S' => exact key v S' h
  | next ρ' S' => exact fun m' H' σ' ex g => key .non S' h m' H' ex g.st _ .non
  | brk ρ' S' => exact h.elim
  | cont ρ' S' => exact h.elim
  | exc c as ρ' S' =>
    intro m' H' σ' ex g
    cases trunc with
    | false => exact h m' H' ex g.st
    | true =>
      have h : OP K xC (fun c d _ H' => E c d H') σ m S H (fun v S' m' H' => ∀ x, VR K m' S'.length H' v x → Q x H') (if S'.take S.length = S then .exc c as S else .bad) := h
      split at h
      · rename_i h2
        exact h _ H' ex.crop (StoreR.cut st g.st ex h2)
      · exact h.elim
  | bad => exact h.elim
end

/-- a def of the program: its name, its text, all its names, its core -/
structure Def where
  x : Str
  st : Stmt
  N : List Str
  F : Fn
  /-- its qualified name; whether it is a name of the top -/
  q : Str := x
  top : Bool := true
/-- its name among the top's names -/
def Def.gx (d : Def) : Str := bif d.top then d.x else ""
structure DefOk (T : Tab) (d : Def) : Prop where
  sc : FnScope d.N (d.N.take d.F.np) (defScope d.st)
  np : d.F.np ≤ d.N.length
  nl : d.F.nl = d.N.length
  bind : ∀ (kV doc pm : Value) (an : Option Addr) (cdv ct : Value) (us : List Value), us.length = (d.N.take d.F.np).length → bindArgs (PySem.W.fnOf d.x d.q (defArgs d.st) (defBody d.st) (defScope d.st) .none kV doc pm an cdv ct) ⟨us, []⟩ = pure ((d.N.take d.F.np).zip us)
  chk : chkSs T d.N d.F.body (defScope d.st) (defBody d.st) = true
/-- what is known of a method's place -/
structure AtM (K : PySem.W.Frag) (mg : Str → Option Value) (c n : List Nat) (f : Addr) : Prop where
  cls : Cls K (clA K c)
  at_ : mg (strV c) = some (.ref (clA K c))
  mkC : n = initN → Mk K (clA K c) f
  meth : n ≠ initN → Meth K (clA K c) (strV n) f
/-- what the whole program's top is known to hold -/
structure TopOk (P : Program) (w : World) (K : PySem.W.Frag) (mg : Str → Option Value) (base : Heap) (xC : Xs) (T : Tab) (defs : List Def) : Prop where
  fns : T.fns = defs.map fun d => (d.gx, d.F.np)
  ok : ∀ i d, defs[i]? = some d → DefOk T d ∧ ∃ f fd, (d.top = true → mg d.x = some (.ref f)) ∧ L2.Fun K d.x d.q d.st f fd ∧ ∀ c n, (c, n, i) ∈ T.mets → AtM K mg c n f
  fld : ∀ c n, (c, n) ∈ T.flds → FldOk K c n
  gd : ∀ x d, (x, d) ∈ T.gds → ∃ a, mg x = some (.ref a) ∧ GdAt K w d a
  gl : ∀ x v, (x, v) ∈ T.gls → ∃ xv u, mg x = some u ∧ RelV xv u ∧ ∀ m n H, VR K m n H v xv
  bl : ∀ x, x ∈ T.blt → mg x = none
  ex : ∀ (i : Nat) x fo, T.exs[i]? = some (x, fo) → XOk P w K mg base x fo (xC.a i) ∧ xC.f i = fo ∧ PySem.W.subIn K (.ref (xC.a i)) (.type "BaseException") = some true ∧ PySem.W.typeIn K (.ref (xC.a i)) = some (.type "type")
  xn : xC.n = T.exs.length
  exm : ∀ i j, i < xC.n → j < xC.n → PySem.W.exmOne K (.ref (xC.a i)) (.ref (xC.a j)) = some ((T.subs.getD j []).contains i)
  isx : ∀ i j, i < xC.n → j < xC.n → ExcC K (xC.a i) ∧ PySem.W.kitOne K (.ref (xC.a i)) (.ref (xC.a j)) = some ((T.subs.getD j []).contains i)
/-- each def does what its core does, however deep it calls -/
theorem fns_ok {P : Program} {w : World} {K : PySem.W.Frag} {mg : Str → Option Value} {base : Heap} {xC : Xs} {T : Tab} {defs : List Def} (top : TopOk P w K mg base xC T defs) (fuel : Nat) : ∀ (n i : Nat) (d : Def), defs[i]? = some d → ∀ (f : Addr) (fd : FuncData), L2.Fun K d.x d.q d.st f fd →
    FnOk P w K mg base (L2.CX P w) (2 * n + 2) f fd (d.N.take d.F.np) (spF K xC d.F.np (callF fuel (defs.map (·.F)) n i)) := by
  intro n
  induction n with
  | zero =>
    intro i d hd f fd F
    refine ⟨fun vs H Q E h => ?_, fun A outer s H args us vs Q E hr he hb hv h => ?_⟩
    · obtain ⟨us, S, m, st, r, hn, q⟩ := h
      exact q.elim
    · obtain ⟨us, S, m, st, r, hn, q⟩ := h
      exact q.elim
  | succ n ih =>
    intro i d hd f fd F
    obtain ⟨D, _⟩ := top.ok i d hd
    have hlen : (d.N.take d.F.np).length = d.F.np := by rw [List.length_take]; exact Nat.min_eq_left D.np
    refine F.okX D.sc (fun vs H Q E h => ?_) (fun cdv A outer s H vs Q E hr h => ?_)
    · obtain ⟨us, S, m, st, r, hn, q⟩ := h
      rw [← r.length, hn, hlen]
    · obtain ⟨us, S, m, st, r, hn, q⟩ := h
      have hvl := r.length
      let X := cxOf (L2.CX P w) P w K mg base d.N d.q (defScope d.st) f cdv A outer s H E
      have tk : Takes X (fun cls d _ H' => E cls d H') := takes_of rfl rfl rfl rfl
      have hp : HP X := ⟨passes_of rfl, rfl, rfl⟩
      have L : Lk X xC T (2 * n + 2) ⟨fun g ws S' => callF fuel (defs.map (·.F)) n g ws S', fuel⟩ := {
        calm := rfl
        nd := D.sc.nd
        room1 := hr
        fn := fun g x np hg => by
          rw [top.fns, List.getElem?_map] at hg
          obtain ⟨d', hd', e⟩ := Option.map_eq_some_iff.mp hg
          cases e
          obtain ⟨D', f', fd', hm', F', hM⟩ := top.ok g d' hd'
          refine ⟨f', fd', _, ih g d' hd' f' fd' F', F'.kp, F'.binds D'.bind, fun hx => ?_, fun c n' hc => ?_⟩
          · cases ht : d'.top with
            | true => unfold Def.gx; rw [ht]; exact hm' ht
            | false => exact absurd (show d'.gx = ("" : Str) by unfold Def.gx; rw [ht]; rfl) hx
          · have M := hM c n' hc
            exact ⟨M.cls, M.at_, M.mkC, M.meth⟩
        fld := top.fld
        gd := top.gd
        gl := top.gl
        bl := top.bl
        ex := fun j x fo hj => by
          obtain ⟨e1, e2, e4, e5⟩ := top.ex j x fo hj
          exact ⟨e1, e2, raises_own e4 e5⟩
        xn := top.xn
        exm := top.exm
        isx := top.isx
        two := Nat.le_add_left 2 (2 * n) }
      have hPS := sndSs (X := X) (N := d.N) d.F.body rfl rfl L tk hp D.chk
      refine ⟨_, hPS, MK.start d.F.nl us, S, m, ⟨⟨?_, ?_⟩, st⟩, ?_⟩
      · unfold MK.start L2.start
        rw [List.length_append, List.length_append, List.length_map, List.length_map, List.length_replicate, List.length_replicate, D.nl, ← hvl]
      · intro j v hj
        unfold MK.start at hj
        unfold L2.start
        by_cases hjl : j < us.length
        · rw [List.getElem?_append_left (by simpa using hjl), List.getElem?_map] at hj
          obtain ⟨v', hv', e⟩ := Option.map_eq_some_iff.mp hj
          cases e
          obtain ⟨x, hx, rx⟩ := r.get hv'
          refine ⟨x, ?_, rx⟩
          rw [List.getElem?_append_left (by rw [List.length_map, ← hvl]; exact hjl), List.getElem?_map, hx]
          rfl
        · rw [List.getElem?_append_right (by rw [List.length_map]; omega), List.getElem?_replicate] at hj
          split at hj
          · cases hj
          · cases hj
      · have q : OP K xC (fun c d _ H' => E c d H') [] m S H (fun v S' m' H' => ∀ x, VR K m' S'.length H' v x → Q x H') (match (defs.map (·.F))[i]? with
          | some F => if us.length = F.np then cond F.gc (finG S (evSs ⟨fun g ws S' => callF fuel (defs.map (·.F)) n g ws S', fuel⟩ F.body (MK.start F.nl us) S)) (fin F.trunc S (evSs ⟨fun g ws S' => callF fuel (defs.map (·.F)) n g ws S', fuel⟩ F.body (MK.start F.nl us) S)) else .bad
          | none => .bad) := q
        rw [List.getElem?_map, hd] at q
        simp only [Option.map_some, hn, if_true] at q
        cases hg : d.F.gc with
        | false => rw [hg] at q; exact fin_ok (σ := []) (trunc := d.F.trunc) st q
        | true => rw [hg] at q; exact finG_ok (σ := []) st q
end MK
namespace MK
open PySem PySem.Spec PyProof.Rows L2
theorem ints_vr {K : PySem.W.Frag} {m : Mp} {n : Nat} {H : Hp} : ∀ ns : List Int, VRs K m n H (ns.map fun z => .int z) (ns.map V.int)
  | [] => .nil
  | z :: r => .cons (.int z) (ints_vr r)
theorem law_sp {K : PySem.W.Frag} {xC : Xs} {fuel n i : Nat} {fns : List Fn} {H : Hp} {a : Addr} {ns : List Int}
    (h : ∃ S', callF fuel fns n i [.lst (ns.map fun z => .int z)] [] = .ok (.bl true) S') (hS : SqL K H a (ns.map V.int)) : spF K xC 1 (callF fuel fns n i) [.ref a] H (fun v _ => v = .bl true) fun _ _ _ => False := by
  obtain ⟨S', e⟩ := h
  refine ⟨[.lst (ns.map fun z => .int z)], [], ⟨fun _ => 0, fun _ => False⟩, ⟨fun j k hj => absurd hj (Nat.not_lt_zero _), fun k c hk => by simp at hk, fun k hk => absurd hk (Nat.not_lt_zero _), fun a z => z.elim⟩, .cons (.lst ?_ (ints_vr ns)) .nil, rfl, ?_⟩
  · rcases hS with h | h
    · exact .inl ⟨h, fun z => z⟩
    · exact .inr h
  · rw [e]
    intro m' H' ex st x r
    cases r
    rfl
end MK
namespace MK
open PySem PySem.Spec PyProof.Rows L2
/-! ### what a law's head gives -/
theorem clA_of {K : PySem.W.Frag} {c : List Nat} {C : Addr} (h : PySem.W.nsIn K mainGlobals (strV c) = some (some (.ref C))) : clA K c = C := by
  unfold clA
  rw [h]
/-- a def of the top -/
structure DIn (K : PySem.W.Frag) (x : Str) (st : Stmt) : Prop where
  ex : ∃ f fd, PySem.W.nsIn K mainGlobals x = some (some (.ref f)) ∧ L2.Fun K x x st f fd
theorem dIn_of {K : PySem.W.Frag} {x : Str} {st : Stmt} {f : Addr} {oc : Value} {od an : Option Addr} {osl : Array (Option Value)} {kV doc pm cdv ct : Value} (a : PySem.W.nsIn K mainGlobals x = some (some (.ref f)))
    (l : K.lookup f = some ⟨oc, od, .func (PySem.W.fnOf x x (defArgs st) (defBody st) (defScope st) .none kV doc pm an cdv ct), osl⟩)
    (c : PySem.W.codeIn K cdv x = true) (k : PySem.W.keepIn K (.ref f) = true) : DIn K x st := ⟨f, _, a, fun_mk l c k⟩
/-- a def of a class -/
structure MtIn (K : PySem.W.Frag) (c : List Nat) (x q : Str) (st : Stmt) : Prop where
  ex : ∃ f fd, PySem.W.findIn K (.ref (clA K c)) x = some (some (.ref f)) ∧ PySem.W.isFn K (.ref f) = true ∧ L2.Fun K x q st f fd
theorem mtIn_of {K : PySem.W.Frag} {c : List Nat} {cx x q : Str} {st : Stmt} {C f : Addr} {oc : Value} {od an : Option Addr} {osl : Array (Option Value)} {kV doc pm cdv ct : Value} (hc : strV c = cx) (hC : PySem.W.nsIn K mainGlobals cx = some (some (.ref C)))
    (a : PySem.W.findIn K (.ref C) x = some (some (.ref f))) (i : PySem.W.isFn K (.ref f) = true)
    (l : K.lookup f = some ⟨oc, od, .func (PySem.W.fnOf x q (defArgs st) (defBody st) (defScope st) .none kV doc pm an cdv ct), osl⟩)
    (cd : PySem.W.codeIn K cdv q = true) (k : PySem.W.keepIn K (.ref f) = true) : MtIn K c x q st := by
  have e : clA K c = C := clA_of (by rw [hc]; exact hC)
  exact ⟨f, _, by rw [e]; exact a, i, fun_mk l cd k⟩
def entB : List (List Nat × Int) → List DictEntry → Bool
  | [], [] => true
  | kv :: d, e :: es => (match e.key, e.val with | .str z _, .int i _ => strV kv.1 == z && kv.2 == i | _, _ => false) && entB d es
  | _, _ => false
theorem entR_of : ∀ {d : List (List Nat × Int)} {es : List DictEntry}, entB d es = true → EntR d es
  | [], [], _ => trivial
  | [], _ :: _, h => b_no h
  | _ :: _, [], h => b_no h
  | (k, v) :: d, e :: es, h => by
    obtain ⟨h1, h2⟩ := b_and h
    split at h1
    · rename_i z t i t2 e1 e2
      obtain ⟨h3, h4⟩ := b_and h1
      have q1 : strV k = z := beq_iff_eq.mp h3
      have q2 : v = i := beq_iff_eq.mp h4
      exact ⟨⟨t, by rw [e1, q1]⟩, ⟨t2, by rw [e2, q2]⟩, entR_of h2⟩
    · exact b_no h1
/-- a dict of the top -/
structure EIn (K : PySem.W.Frag) (w : World) (x : Str) (d : List (List Nat × Int)) : Prop where
  ex : ∃ a, PySem.W.nsIn K mainGlobals x = some (some (.ref a)) ∧ GdAt K w d a
theorem eIn_of {K : PySem.W.Frag} {w : World} {x : Str} {d : List (List Nat × Int)} {a : Addr} {es : Array DictEntry} {n : Nat} (h : PySem.W.nsIn K mainGlobals x = some (some (.ref a))) (l : K.lookup a = some ⟨.type "dict", none, .dict es n, #[]⟩)
    (lit : PySem.W.KeysLit w.params es.toList) (low : (a == sysModules) = false) (r : entB d es.toList = true) : EIn K w x d := ⟨a, h, es, n, ⟨l, lit, low⟩, entR_of r⟩
structure GIn (K : PySem.W.Frag) (x : Str) (v : PV) : Prop where
  ex : ∃ xv u, PySem.W.nsIn K mainGlobals x = some (some u) ∧ RelV xv u ∧ ∀ m n H, VR K m n H v xv
theorem gIn_int {K : PySem.W.Frag} {x : Str} {i : Int} {t : Tok} (h : PySem.W.nsIn K mainGlobals x = some (some (.int i t))) : GIn K x (.int i) := ⟨.int i, _, h, ⟨t, rfl⟩, fun _ _ _ => .int i⟩
theorem gIn_str {K : PySem.W.Frag} {x z : Str} {s : List Nat} {t : Tok} (h : PySem.W.nsIn K mainGlobals x = some (some (.str z t))) (hz : (strV s == z && okSb s) = true) : GIn K x (.str s) := by
  obtain ⟨h1, h2⟩ := b_and hz
  have := beq_iff_eq.mp h1
  subst this
  exact ⟨.str (strV s), _, h, ⟨t, rfl⟩, fun _ _ _ => .str s (okSb_ok h2)⟩
mutual
/-- a value that stands in the written part -/
def valB (K : PySem.W.Frag) : PV → Value → Bool
  | .non, .none => true
  | .bl b, .bool c => b == c
  | .int i, .int j _ => i == j
  | .str s, .str z _ => strV s == z && okSb s
  | .tup xs, .ref a => match K.lookup a with
    | some ⟨.type t, _, .seq its _, _⟩ => t == "tuple" && decide (its.size ≤ SZ) && valsB K xs its.toList
    | _ => false
  | _, _ => false
def valsB (K : PySem.W.Frag) : List PV → List Value → Bool
  | [], [] => true
  | x :: xs, u :: us => valB K x u && valsB K xs us
  | _, _ => false
end
mutual
theorem val_of {K : PySem.W.Frag} : ∀ (v : PV) (u : Value), valB K v u = true → ∃ xv, RelV xv u ∧ ∀ m n H, VR K m n H v xv
  | .non, u, h => by
    cases u <;> first | exact b_no h | exact ⟨.non, rfl, fun _ _ _ => .non⟩
  | .bl b, u, h => by
    cases u with
    | bool c =>
      have : b = c := beq_iff_eq.mp h
      subst this
      exact ⟨.bl b, rfl, fun _ _ _ => .bl b⟩
    | _ => exact b_no h
  | .int i, u, h => by
    cases u with
    | int j t =>
      have : i = j := beq_iff_eq.mp h
      subst this
      exact ⟨.int i, ⟨t, rfl⟩, fun _ _ _ => .int i⟩
    | _ => exact b_no h
  | .str s, u, h => by
    cases u with
    | str z t =>
      obtain ⟨h1, h2⟩ := b_and h
      have := beq_iff_eq.mp h1
      subst this
      exact ⟨.str (strV s), ⟨t, rfl⟩, fun _ _ _ => .str s (okSb_ok h2)⟩
    | _ => exact b_no h
  | .tup xs, u, h => by
    cases u with
    | ref a =>
      unfold valB at h
      split at h
      · rename_i t dd its nn sl hl
        obtain ⟨h, h3⟩ := b_and h
        obtain ⟨h1, h2⟩ := b_and h
        have : t = "tuple" := by simpa using h1
        subst this
        obtain ⟨vs, h4, h5⟩ := vals_of xs its.toList h3
        exact ⟨.ref a, rfl, fun m n H => .tup (.inr ⟨_, its, nn, hl, rfl, rfl, by rw [← SZ_eq]; exact of_decide_eq_true h2, h4⟩) (h5 m n H)⟩
      · exact b_no h
    | _ => exact b_no h
  | .lst xs, u, h => by cases u <;> exact b_no h
  | .ref k, u, h => by cases u <;> exact b_no h
  | .ty t, u, h => by cases u <;> exact b_no h
theorem vals_of {K : PySem.W.Frag} : ∀ (vs : List PV) (us : List Value), valsB K vs us = true → ∃ xs, Vals xs us ∧ ∀ m n H, VRs K m n H vs xs
  | [], [], h => ⟨[], .nil, fun _ _ _ => .nil⟩
  | [], _ :: _, h => b_no h
  | _ :: _, [], h => b_no h
  | v :: vs, u :: us, h => by
    obtain ⟨h1, h2⟩ := b_and h
    obtain ⟨x, r1, r2⟩ := val_of v u h1
    obtain ⟨xs, q1, q2⟩ := vals_of vs us h2
    exact ⟨x :: xs, .cons r1 q1, fun m n H => .cons (r2 m n H) (q2 m n H)⟩
end
def gInB (K : PySem.W.Frag) (x : Str) (v : PV) : Bool := match PySem.W.nsIn K mainGlobals x with
  | some (some u) => valB K v u
  | _ => false
theorem gIn_of {K : PySem.W.Frag} {x : Str} {v : PV} (h : gInB K x v = true) : GIn K x v := by
  unfold gInB at h
  split at h
  · rename_i u e
    obtain ⟨xv, h1, h2⟩ := val_of v u h
    exact ⟨xv, u, e, h1, h2⟩
  · cases h
def allGB (K : PySem.W.Frag) : List (Str × PV) → Bool
  | [] => true
  | g :: r => gInB K g.1 g.2 && allGB K r
/-- the text of such an __init__'s message -/
structure MsgF (F : NdefX.NF) (p : Str) (msg : Expr) : Prop where
  shape : ∃ (pre : Str) (j : Nat) (q1 q2 q3 q4 q5 : Pos), msg = .BinOp (.Constant (.str pre) j q1) .Add (.Call (.Name "str" q2) [.Name p q3] [] q4) q5 ∧ pre.length ≤ 1000
  gl : F.scope.names.lookup ("str" : Str) = some .globalImplicit
  bind : ∀ (doc pm ctv : Value) (us : List Value), us.length = (PSl p).length → bindArgs (F.fd doc pm ctv) ⟨us, []⟩ = pure ((PSl p).zip us)
structure XIn (P : Program) (K : PySem.W.Frag) (x : Str) (fo : Option Str) (a : Addr) : Prop where
  ns : PySem.W.nsIn K mainGlobals x = some (some (.ref a))
  keep : PySem.W.keepIn K (.ref a) = true
  sub : PySem.W.subIn K (.ref a) (.type "BaseException") = some true
  typ : PySem.W.typeIn K (.ref a) = some (.type "type")
  plain : fo = none → PySem.W.excIn K a [.type "ValueError", .type "Exception", .type "BaseException", .type "object"] "ValueError.__new__" = true
  own : ∀ f, fo = some f → XfC K a ∧ PySem.W.nsIn K mainGlobals "str" = some none ∧ ∃ (fI : Addr) (F : NdefX.NF) (p : Str) (msg : Expr), SupC P K a fI F p f msg ∧ MsgF F p msg
/-- where the exception classes lie -/
def xcOf (K : PySem.W.Frag) (l : List (Str × Option Str)) : Xs := ⟨l.length, fun i => match PySem.W.nsIn K mainGlobals ((l[i]?).map (·.1) |>.getD "") with
  | some (some (.ref a)) => a
  | _ => 0, fun i => (l[i]?).bind (·.2)⟩
structure MIn (K : PySem.W.Frag) (x y : Str) (b : Bool) : Prop where
  ex : ∃ a c, PySem.W.nsIn K mainGlobals x = some (some (.ref a)) ∧ PySem.W.nsIn K mainGlobals y = some (some (.ref c)) ∧ PySem.W.exmOne K (.ref a) (.ref c) = some b ∧ ExcC K a ∧ PySem.W.kitOne K (.ref a) (.ref c) = some b
structure ZIn (K : PySem.W.Frag) (x : Str) : Prop where
  ex : PySem.W.nsIn K mainGlobals x = some none
/-- a def as the head tells of it: of the top, or of a class -/
def DM (K : PySem.W.Frag) (T : Tab) (i : Nat) (d : Def) : Prop := if d.top = true then DIn K d.x d.st ∧ d.q = d.x ∧ (T.mets.all fun z => z.2.2 != i) = true else
  ∃ c n, strV n = d.x ∧ MtIn K c d.x d.q d.st ∧ (T.mets.all fun z => z.2.2 != i || (decide (z.1 = c) && decide (z.2.1 = n))) = true
theorem dm_top {K : PySem.W.Frag} {T : Tab} {i : Nat} {d : Def} (ht : d.top = true) (h : DIn K d.x d.st) (hq : d.q = d.x) (hm : (T.mets.all fun z => z.2.2 != i) = true) : DM K T i d := by
  unfold DM
  rw [if_pos ht]
  exact ⟨h, hq, hm⟩
theorem dm_met {K : PySem.W.Frag} {T : Tab} {i : Nat} {d : Def} {c n : List Nat} (ht : d.top = false) (hn : strV n = d.x) (h : MtIn K c d.x d.q d.st) (hm : (T.mets.all fun z => z.2.2 != i || (decide (z.1 = c) && decide (z.2.1 = n))) = true) : DM K T i d := by
  unfold DM
  rw [if_neg (by rw [ht]; exact Bool.false_ne_true)]
  exact ⟨c, n, hn, h, hm⟩
def AllD (K : PySem.W.Frag) (T : Tab) : Nat → List Def → Prop
  | _, [] => True
  | i, d :: r => (DefOk T d ∧ DM K T i d) ∧ AllD K T (i + 1) r
def AllE (K : PySem.W.Frag) (w : World) : List (Str × List (List Nat × Int)) → Prop
  | [] => True
  | g :: r => EIn K w g.1 g.2 ∧ AllE K w r
/-- what is asked of the classes: read off -/
def clsOkB (K : PySem.W.Frag) (c : List Nat) : Bool := decide (PySem.W.nsIn K mainGlobals (strV c) = some (some (.ref (clA K c)))) && PySem.W.plainGet K (clA K c) Str.empty && PySem.W.hasDictIn K (clA K c) && PySem.W.plainOver K (clA K c) && decide (PySem.W.findIn K (.ref (clA K c)) "__setattr__" = some (some (.builtin "object.__setattr__"))) && PySem.W.makesIn K (clA K c) && PySem.W.keepIn K (.ref (clA K c))
def allCB (K : PySem.W.Frag) (T : Tab) : Bool := T.cls.all (clsOkB K) && (T.flds.all fun z => T.cls.contains z.1 && decide (PySem.W.findIn K (.ref (clA K z.1)) (strV z.2) = some none)) && T.mets.all fun z => T.cls.contains z.1
structure ClsF (K : PySem.W.Frag) (c : List Nat) : Prop where
  ns : PySem.W.nsIn K mainGlobals (strV c) = some (some (.ref (clA K c)))
  cls : Cls K (clA K c)
  mkC : PySem.W.makesIn K (clA K c) = true
  kp : PySem.W.keepIn K (.ref (clA K c)) = true
theorem clsOk_of {K : PySem.W.Frag} {c : List Nat} (h : clsOkB K c = true) : ClsF K c := by
  obtain ⟨h, h7⟩ := b_and h
  obtain ⟨h, h6⟩ := b_and h
  obtain ⟨h, h5⟩ := b_and h
  obtain ⟨h, h4⟩ := b_and h
  obtain ⟨h, h3⟩ := b_and h
  obtain ⟨h1, h2⟩ := b_and h
  exact ⟨of_decide_eq_true h1, ⟨h2, h3, h4, of_decide_eq_true h5⟩, h6, h7⟩
structure AllC (K : PySem.W.Frag) (T : Tab) : Prop where
  cls : ∀ c, c ∈ T.cls → ClsF K c
  fld : ∀ c n, (c, n) ∈ T.flds → FldOk K c n
  met : ∀ c n i, (c, n, i) ∈ T.mets → ClsF K c
theorem allC_of {K : PySem.W.Frag} {T : Tab} (h : allCB K T = true) : AllC K T := by
  obtain ⟨h, h3⟩ := b_and h
  obtain ⟨h1, h2⟩ := b_and h
  have hc : ∀ c, T.cls.contains c = true → ClsF K c := fun c hc => clsOk_of (List.all_eq_true.mp h1 c (by simpa using hc))
  refine ⟨fun c hm => hc c (by simpa using hm), fun c n hm => ?_, fun c n i hm => hc c (List.all_eq_true.mp h3 _ hm)⟩
  obtain ⟨k1, k2⟩ := b_and (List.all_eq_true.mp h2 _ hm)
  have k3 : PySem.W.findIn K (.ref (clA K c)) (strV n) = some none := of_decide_eq_true k2
  exact ⟨(hc c k1).cls, k3⟩
def AllG (K : PySem.W.Frag) : List (Str × PV) → Prop
  | [] => True
  | g :: r => GIn K g.1 g.2 ∧ AllG K r
theorem allG_of {K : PySem.W.Frag} : ∀ {l : List (Str × PV)}, allGB K l = true → AllG K l
  | [], _ => trivial
  | g :: r, h => by
    obtain ⟨h1, h2⟩ := b_and h
    exact ⟨gIn_of h1, allG_of h2⟩
def AllZ (K : PySem.W.Frag) : List Str → Prop
  | [] => True
  | g :: r => ZIn K g ∧ AllZ K r
def AllX (P : Program) (K : PySem.W.Frag) : List (Str × Option Str) → Prop
  | [] => True
  | g :: r => (∃ a, XIn P K g.1 g.2 a) ∧ AllX P K r
def AllM (K : PySem.W.Frag) (T : Tab) : Prop := ∀ i j x y, T.exs[i]? = some x → T.exs[j]? = some y → MIn K x.1 y.1 ((T.subs.getD j []).contains i)
theorem AllD.get {K : PySem.W.Frag} {T : Tab} : ∀ {l : List Def} {j : Nat}, AllD K T j l → ∀ i d, l[i]? = some d → DefOk T d ∧ DM K T (j + i) d
  | [], _, _, i, d, h => by simp at h
  | e :: r, j, a, 0, d, h => by cases h; exact a.1
  | e :: r, j, a, i + 1, d, h => by
    have := AllD.get a.2 i d (by simpa using h)
    rw [show j + (i + 1) = j + 1 + i from by omega]
    exact this
theorem AllE.mem {K : PySem.W.Frag} {w : World} : ∀ {l : List (Str × List (List Nat × Int))}, AllE K w l → ∀ d ∈ l, EIn K w d.1 d.2
  | [], _, d, h => absurd h (by simp)
  | e :: r, a, d, h => by
    rcases List.mem_cons.mp h with rfl | h
    · exact a.1
    · exact AllE.mem a.2 d h
theorem dm_at {K : PySem.W.Frag} {mg : Str → Option Value} {h : Heap} {T : Tab} {i : Nat} {d : Def} (X : K.In h) (G : h.Ns mainGlobals mg) (C : AllC K T) (D : DM K T i d) : ∃ f fd, (d.top = true → mg d.x = some (.ref f)) ∧ L2.Fun K d.x d.q d.st f fd ∧ ∀ c n, (c, n, i) ∈ T.mets → AtM K mg c n f := by
  unfold DM at D
  split at D
  · obtain ⟨⟨f, fd, h1, h2⟩, hq, hn⟩ := D
    refine ⟨f, fd, fun _ => PySem.W.mg_of X G h1, by rw [hq]; exact h2, fun c n hm => ?_⟩
    have := List.all_eq_true.mp hn _ hm
    simp at this
  · rename_i ht
    obtain ⟨c, n, hx, ⟨f, fd, h1, h2, h3⟩, hn⟩ := D
    refine ⟨f, fd, fun z => absurd z ht, h3, fun c' n' hm => ?_⟩
    have hh := List.all_eq_true.mp hn _ hm
    have hh : c' = c ∧ n' = n := by simpa using hh
    obtain ⟨rfl, rfl⟩ := hh
    have F := C.met _ _ _ hm
    refine ⟨F.cls, PySem.W.mg_of X G F.ns, fun e => ⟨F.mkC, ?_, h2, F.kp⟩, fun _ => ⟨by rw [hx]; exact h1, h2, h3.kp⟩⟩
    subst e
    have : d.x = ("__init__" : Str) := hx.symm.trans (by decide +kernel)
    rw [← this]
    exact h1
theorem AllG.mem {K : PySem.W.Frag} : ∀ {l : List (Str × PV)}, AllG K l → ∀ d ∈ l, GIn K d.1 d.2
  | [], _, d, h => absurd h (by simp)
  | e :: r, a, d, h => by
    rcases List.mem_cons.mp h with rfl | h
    · exact a.1
    · exact AllG.mem a.2 d h
theorem AllZ.mem {K : PySem.W.Frag} : ∀ {l : List Str}, AllZ K l → ∀ d ∈ l, ZIn K d
  | [], _, d, h => absurd h (by simp)
  | e :: r, a, d, h => by
    rcases List.mem_cons.mp h with rfl | h
    · exact a.1
    · exact AllZ.mem a.2 d h
def allZB (K : PySem.W.Frag) (l : List Str) : Bool := l.all fun x => decide (PySem.W.nsIn K mainGlobals x = some none)
theorem allZ_of {K : PySem.W.Frag} : ∀ {l : List Str}, allZB K l = true → AllZ K l
  | [], _ => trivial
  | g :: r, h => by
    obtain ⟨h1, h2⟩ := b_and (show (decide (PySem.W.nsIn K mainGlobals g = some none) && allZB K r) = true from h)
    exact ⟨⟨of_decide_eq_true h1⟩, allZ_of h2⟩
theorem AllX.get {P : Program} {K : PySem.W.Frag} : ∀ {l : List (Str × Option Str)}, AllX P K l → ∀ (i : Nat) x fo, l[i]? = some (x, fo) → ∃ a, XIn P K x fo a
  | [], _, i, x, fo, h => by simp at h
  | e :: r, a, 0, x, fo, h => by cases h; exact a.1
  | e :: r, a, i + 1, x, fo, h => AllX.get a.2 i x fo (by simpa using h)
theorem xc_at {K : PySem.W.Frag} {l : List (Str × Option Str)} {i : Nat} {x : Str} {fo : Option Str} {a : Addr} (h : l[i]? = some (x, fo)) (e : PySem.W.nsIn K mainGlobals x = some (some (.ref a))) : (xcOf K l).a i = a ∧ (xcOf K l).f i = fo := by
  refine ⟨?_, ?_⟩
  · show (match PySem.W.nsIn K mainGlobals ((l[i]?).map (·.1) |>.getD "") with | some (some (.ref a)) => a | _ => 0) = a
    rw [h]
    show (match PySem.W.nsIn K mainGlobals x with | some (some (.ref a)) => a | _ => 0) = a
    rw [e]
  · show (l[i]?).bind (·.2) = fo
    rw [h]
    rfl
theorem len_toString (i : Int) (h : i.natAbs < 2 ^ 64) : (Str.ofString (toString i)).length ≤ 100 := by
  rw [← figs_str, strV_length]
  cases i with
  | ofNat n => exact Nat.le_trans (figs_le 20 n (by decide) (by have : (Int.ofNat n).natAbs = n := rfl; omega)) (by decide)
  | negSucc n =>
    have : figs (Int.negSucc n) = 45 :: figs ((n + 1 : Nat) : Int) := by
      unfold figs
      have : toString (Int.negSucc n) = "-" ++ toString (n + 1) := rfl
      rw [this, String.toList_append, List.map_append]
      rfl
    rw [this, List.length_cons]
    have := figs_le 20 (n + 1) (by decide) (by have : (Int.negSucc n).natAbs = n + 1 := rfl; omega)
    omega
theorem msg_pe {P : Program} {w : World} {K : PySem.W.Frag} {mg : Str → Option Value} {base : Heap} {F : NdefX.NF} {fI : Addr} {p f : Str} {C : Addr} {msg : Expr} (SC : SupC P K C fI F p f msg) (M : MsgF F p msg) (hs : mg "str" = none)
    (A : Around) (outer : List PySem.Env) (s : Shared) (H : Hp) (E : XK) (k : Nat) (hr : Room k (A.deeper (NdefX.envF F fI s.heap.objs.size))) :
    ∃ t, PE (NdefX.ncx (L2.CX P w) P w K mg base (NS p) F fI A outer s H E) msg t ∧ ∀ (a : Addr) (v : V) (H' : Hp) (Q : VK), goodX v → (∀ z, Q (.str z) H') → t [some (.ref a), some v, none] H' Q := by
  obtain ⟨pre, j, q1, q2, q3, q4, q5, rfl, hpre⟩ := M.shape
  have hp1 : F.scope.names.lookup p = some .local := SC.sc.par _ (by simp)
  refine ⟨_, pe_op op_add_str pe_str (pe_callTy (CallR.or call_str_int SkE.call_str_str) M.gl hs PyProof.Rows.Boot.«str» (pa_cons (pe_var (i := 1) rfl (.inl hp1) SC.pd SC.pc) pa_nil)), fun a v H' Q hg hq => ?_⟩
  refine ⟨v, rfl, ?_⟩
  rcases hg with ⟨i, rfl, hi⟩ | ⟨z, rfl, hz⟩
  · refine .inl ⟨i, rfl, ?_, pre, _, rfl, rfl, ?_, hq _⟩
    · have : i.natAbs.log2 < 64 := by
        by_cases h0 : i.natAbs = 0
        · rw [h0]; decide
        · exact (Nat.log2_lt h0).mpr hi
      omega
    · have := len_toString i hi
      rw [sizeLine_eq]
      omega
  · refine .inr ⟨z, rfl, pre, z, rfl, rfl, ?_, hq _⟩
    rw [sizeLine_eq]
    omega
theorem topOk_of {P : Program} {w : World} {K : PySem.W.Frag} {mg : Str → Option Value} {h base : Heap} {T : Tab} {defs : List Def} (X : K.In h) (G : h.Ns mainGlobals mg) (fns : T.fns = defs.map fun d => (d.gx, d.F.np))
    (D : AllD K T 0 defs) (Gl : AllG K T.gls) (Z : AllZ K T.blt) (E : AllX P K T.exs) (M : AllM K T) (C : AllC K T) (Gd : AllE K w T.gds) : TopOk P w K mg base (xcOf K T.exs) T defs where
  fns := fns
  ok := fun i d hd => by
    obtain ⟨h1, h2⟩ := D.get i d hd
    rw [Nat.zero_add] at h2
    exact ⟨h1, dm_at X G C h2⟩
  fld := C.fld
  gd := fun x d hd => by
    obtain ⟨a, h1, h2⟩ := (Gd.mem (x, d) hd).ex
    exact ⟨a, PySem.W.mg_of X G h1, h2⟩
  gl := fun x v hv => by
    obtain ⟨xv, u, h1, h2, h3⟩ := (Gl.mem (x, v) hv).ex
    exact ⟨xv, u, PySem.W.mg_of X G h1, h2, h3⟩
  bl := fun x hx => PySem.W.mg_none_of X G (Z.mem x hx).ex
  ex := fun i x fo hx => by
    obtain ⟨a, ha⟩ := AllX.get E i x fo hx
    obtain ⟨e1, e2⟩ := xc_at hx ha.ns
    rw [e1]
    refine ⟨⟨PySem.W.mg_of X G ha.ns, ha.keep, ha.plain, fun f hf => ?_⟩, e2, ha.sub, ha.typ⟩
    obtain ⟨q1, q2, fI, F, p, msg, q3, q4⟩ := ha.own f hf
    obtain ⟨oc, od, doc, pm, ctv, osl, lk⟩ := q3.lk
    refine ⟨q3.T, q1, q3.nof, fI, F.fd doc pm ctv, p, q3.iC, q3.tI, fnok_sup (k := 0) q3 (msg_pe q3 q4 (PySem.W.mg_none_of X G q2)) ⟨oc, od, doc, pm, ctv, osl, rfl, lk⟩, .all (q4.bind doc pm ctv)⟩
  xn := rfl
  exm := fun i j hi hj => by
    have hi : i < T.exs.length := hi
    have hj : j < T.exs.length := hj
    obtain ⟨a, c, h1, h2, h3, _, _⟩ := (M i j _ _ (List.getElem?_eq_getElem hi) (List.getElem?_eq_getElem hj)).ex
    rw [(xc_at (List.getElem?_eq_getElem hi) h1).1, (xc_at (List.getElem?_eq_getElem hj) h2).1, h3]
  isx := fun i j hi hj => by
    have hi : i < T.exs.length := hi
    have hj : j < T.exs.length := hj
    obtain ⟨a, c, h1, h2, _, h4, h5⟩ := (M i j _ _ (List.getElem?_eq_getElem hi) (List.getElem?_eq_getElem hj)).ex
    rw [(xc_at (List.getElem?_eq_getElem hi) h1).1, (xc_at (List.getElem?_eq_getElem hj) h2).1]
    exact ⟨h4, h5⟩
/-- the law's promise, for L2.walk_of -/
theorem law_fn {P : Program} {w : World} {K : PySem.W.Frag} {mg : Str → Option Value} {h : Heap} {T : Tab} {defs : List Def} (X : K.In h) (G : h.Ns mainGlobals mg) (fns : T.fns = defs.map fun d => (d.gx, d.F.np))
    (D : AllD K T 0 defs) (Gl : AllG K T.gls) (Z : AllZ K T.blt) (E : AllX P K T.exs) (M : AllM K T) (C : AllC K T) (Gd : AllE K w T.gds) (fuel n i : Nat) (d : Def) (hd : defs[i]? = some d) {fa : Addr} {x ps : Str} (hx : d.x = x) (htop : d.top = true) (hfa : mg x = some (.ref fa)) (hN : d.N.take d.F.np = [ps]) (hnp : d.F.np = 1) :
    ∃ fd : FuncData, (∀ (s : Shared) (v : Value), BindsTo s fd ⟨[v], []⟩ [(ps, v)]) ∧ ∀ base : Heap, K.In base → base.Ns mainGlobals mg → FnOk P w K mg base (L2.CX P w) (2 * n + 2) fa fd [ps] (spF K (xcOf K T.exs) 1 (callF fuel (defs.map (·.F)) n i)) := by
  have top := fun base => topOk_of (P := P) (w := w) (base := base) X G fns D Gl Z E M C Gd
  obtain ⟨D1, f, fd, h1, h2, -⟩ := (top h).ok i d hd
  have h1 := h1 htop
  rw [hx] at h1
  have e := hfa.symm.trans h1
  cases e
  refine ⟨fd, fun s v => ?_, fun base _ _ => ?_⟩
  · obtain ⟨oc, od, kV, doc, pm, an, cdv, ct, osl, rfl, lk, hcd⟩ := h2.ex
    have := D1.bind kV doc pm an cdv ct [v] (by rw [hN]; rfl)
    rw [hN] at this
    exact .of_eq this
  · have := fns_ok (P := P) (w := w) (base := base) (top base) fuel n i d hd fa fd h2
    rw [hN, hnp] at this
    exact this
end MK
namespace MK
open PySem PySem.Spec PyProof.Rows L2
theorem cx_no {P : Program} {w : World} {outer : List PySem.Env} {H : Hp} {s s' : Shared} {e : Value} (h : L2.CX P w outer H s (fun _ _ _ => False) e s') : False := by
  obtain ⟨_, _, _, _, _, _, _, _, _, _, _, _, hE⟩ := h
  exact hE
end MK

set_option linter.all false
set_option autoImplicit false
set_option Elab.async false
set_option maxRecDepth 100000
set_option maxHeartbeats 4000000
/-! MkXB: the exception classes, read off the written part by Bools. -/
namespace MK
open PySem PySem.Spec PyProof.Rows L2 NdefX
/-- where a global lies -/
def gAt (K : PySem.W.Frag) (x : Str) : Option Addr := match PySem.W.nsIn K mainGlobals x with
  | some (some (.ref a)) => some a
  | _ => none
theorem gAt_of {K : PySem.W.Frag} {x : Str} {a : Addr} (h : gAt K x = some a) : PySem.W.nsIn K mainGlobals x = some (some (.ref a)) := by
  unfold gAt at h
  split at h
  · rename_i b e; cases h; exact e
  · cases h
def exB (K : PySem.W.Frag) (a : Addr) : Bool := PySem.W.keepIn K (.ref a) && decide (PySem.W.subIn K (.ref a) (.type "BaseException") = some true) && decide (PySem.W.typeIn K (.ref a) = some (.type "type"))
/-- a class without own __init__ -/
def plainB (K : PySem.W.Frag) (x : Str) : Bool := match gAt K x with
  | some a => exB K a && PySem.W.excIn K a [.type "ValueError", .type "Exception", .type "BaseException", .type "object"] "ValueError.__new__"
  | none => false
theorem plain_of {P : Program} {K : PySem.W.Frag} {x : Str} (h : plainB K x = true) : ∃ a, XIn P K x none a := by
  unfold plainB at h
  split at h
  · rename_i a e
    obtain ⟨h1, h2⟩ := b_and h
    obtain ⟨h3, h4⟩ := b_and h1
    obtain ⟨h5, h6⟩ := b_and h3
    exact ⟨a, gAt_of e, h5, of_decide_eq_true h6, of_decide_eq_true h4, fun _ => h2, fun f hf => (by cases hf)⟩
  · cases h
theorem ev_super (s i pre st p' : Str) (p0 p1 p2 p3 q1 q2 q3 q4 q5 : Pos) (j : Nat) (env : PySem.Env) (hl : (p2.endLine == p3.line) = true) : eval (.Call (.Attribute (.Call (.Name s p0) [] [] p1) i p2) [.BinOp (.Constant (.str pre) j q1) .Add (.Call (.Name st q2) [.Name p' q3] [] q4) q5] [] p3) env = (do
      let ov ← attributeBase (.Call (.Name s p0) [] [] p1) i env (eval (.Call (.Name s p0) [] [] p1) env)
      standAt p2.atName
      let (f, first) ← holding [ov] (getMethod ov i (do return (← importBound (.Call (.Name s p0) [] [] p1) env).getD true))
      callWith p3 f first (backTo p3 (starEach [.BinOp (.Constant (.str pre) j q1) .Add (.Call (.Name st q2) [.Name p' q3] [] q4) q5] env)) []) := by
  have e1 : eval (.Call (.Attribute (.Call (.Name s p0) [] [] p1) i p2) [.BinOp (.Constant (.str pre) j q1) .Add (.Call (.Name st q2) [.Name p' q3] [] q4) q5] [] p3) env = (do
      let ov ← attributeBase (.Call (.Name s p0) [] [] p1) i env (eval (.Call (.Name s p0) [] [] p1) env)
      standAt p2.atName
      methodCall (.Call (.Name s p0) [] [] p1) i p2 p3 env ov 1 (backTo p3 (starEach [.BinOp (.Constant (.str pre) j q1) .Add (.Call (.Name st q2) [.Name p' q3] [] q4) q5] env)) []) := rfl
  rw [e1]
  have e2 : ∀ ov, methodCall (.Call (.Name s p0) [] [] p1) i p2 p3 env ov 1 (backTo p3 (starEach [.BinOp (.Constant (.str pre) j q1) .Add (.Call (.Name st q2) [.Name p' q3] [] q4) q5] env)) [] = (do
      let (f, first) ← holding [ov] (getMethod ov i (do return (← importBound (.Call (.Name s p0) [] [] p1) env).getD true))
      callWith p3 f first (backTo p3 (starEach [.BinOp (.Constant (.str pre) j q1) .Add (.Call (.Name st q2) [.Name p' q3] [] q4) q5] env)) []) := fun ov => by
    have hf : methodCallForm 1 (backTo p3 (starEach [.BinOp (.Constant (.str pre) j q1) .Add (.Call (.Name st q2) [.Name p' q3] [] q4) q5] env)) [] = true := rfl
    unfold methodCall calleeOf methodCallPos
    rw [hf, hl]
    rfl
  simp only [e2]
/-- the body of such an __init__: its argument, its message -/
def bodyB (f : Str) : List Stmt → Option (Str × Expr)
  | [.Expr (.Call (.Attribute (.Call (.Name s _) [] [] _) i p2) [.BinOp (.Constant (.str pre) j q1) .Add (.Call (.Name st q2) [.Name p' q3] [] q4) q5] [] p3) _, .Assign [.Attribute (.Name sf _) f' _] (.Name p _) _] =>
    if s = ("super" : Str) ∧ i = ("__init__" : Str) ∧ st = ("str" : Str) ∧ p' = p ∧ sf = ("self" : Str) ∧ f' = f ∧ pre.length ≤ 1000 ∧ (p2.endLine == p3.line) = true then some (p, .BinOp (.Constant (.str pre) j q1) .Add (.Call (.Name st q2) [.Name p' q3] [] q4) q5) else none
  | _ => none
theorem bodyB_of {f p : Str} {msg : Expr} {b : List Stmt} (h : bodyB f b = some (p, msg)) : (∃ p0 p1 p2 p3 p4 p5 p6 p7 p8, b = [.Expr (.Call (.Attribute (.Call (.Name "super" p0) [] [] p1) "__init__" p2) [msg] [] p3) p4, .Assign [.Attribute (.Name "self" p5) f p6] (.Name p p7) p8] ∧
    ∀ env : PySem.Env, starEach [msg] env = (false, eval msg env) :: starEach [] env ∧ ∃ pl : Sem Bool, eval (.Call (.Attribute (.Call (.Name "super" p0) [] [] p1) "__init__" p2) [msg] [] p3) env = (do
      let ov ← attributeBase (.Call (.Name "super" p0) [] [] p1) "__init__" env (eval (.Call (.Name "super" p0) [] [] p1) env)
      standAt p2.atName
      let (f, first) ← holding [ov] (getMethod ov "__init__" pl)
      callWith p3 f first (backTo p3 (starEach [msg] env)) [])) ∧
    ∃ (pre : Str) (j : Nat) (q1 q2 q3 q4 q5 : Pos), msg = .BinOp (.Constant (.str pre) j q1) .Add (.Call (.Name "str" q2) [.Name p q3] [] q4) q5 ∧ pre.length ≤ 1000 := by
  unfold bodyB at h
  split at h
  · split at h
    · rename_i hh
      obtain ⟨rfl, rfl, rfl, rfl, rfl, rfl, hl, hln⟩ := hh
      cases h
      exact ⟨⟨_, _, _, _, _, _, _, _, _, rfl, fun env => ⟨rfl, _, ev_super _ _ _ _ _ _ _ _ _ _ _ _ _ _ _ env hln⟩⟩, _, _, _, _, _, _, _, rfl, hl⟩
    · cases h
  · cases h
def parB (p : Str) : Arguments → Bool
  | ⟨[], [a, b], none, [], [], none, []⟩ => decide (a.arg = ("self" : Str)) && decide (b.arg = p) && (decide (p = ("at" : Str)) || (decide (p = ("line" : Str)) || decide (p = ("name" : Str))))
  | _ => false
def notDun (p : Str) : Bool := !(p == ("__debug__" : Str)) && !(p == ("__classdict__" : Str))
def fileB (P : Program) (K : PySem.W.Frag) (c : Addr) : Bool := match K.lookup c with
  | some ⟨_, _, .fields vs, _⟩ => (match (vs[2]? : Option Value) with
    | some (Value.str file _) => (P.main.file : Str) == file
    | _ => false)
  | _ => false
def cellB (K : PySem.W.Frag) (cc C : Addr) : Bool := match K.lookup cc with
  | some ⟨_, _, .cell (some (.ref D)), _⟩ => decide (D = C)
  | _ => false
def clsB (K : PySem.W.Frag) (C : Addr) : Bool := match K.lookup C with
  | some ⟨.type t, _, .cls cd, sl⟩ => t == "type" && (match cd.mro, sl.toList with
    | .ref C' :: bm, [_, _, _, _, some (.builtin n), _] => decide (C' = C) && n == "ValueError.__new__" && !cd.hasDel && cd.hasDict && PySem.HandSPX.refsVE bm
    | _, _ => false)
  | _ => false
theorem clsB_of {K : PySem.W.Frag} {C : Addr} (h : clsB K C = true) : ∃ nm q N bs bm sn sub ab col dd k0 k1 k2 k3 k5, K.lookup C = some (excClassObj nm q C N bs bm true sn sub ab col dd k0 k1 k2 k3 k5 "ValueError.__new__") ∧ PySem.HandSPX.refsVE bm = true := by
  unfold clsB at h
  split at h
  · rename_i t dd cd sl ho
    obtain ⟨ht, hq⟩ := b_and h
    clear h
    have ht : t = "type" := by simpa using ht
    subst ht
    split at hq
    · rename_i C' bm k0 k1 k2 k3 n k5 hm hs
      obtain ⟨h, h5⟩ := b_and hq
      obtain ⟨h, h4⟩ := b_and h
      obtain ⟨h, h3⟩ := b_and h
      obtain ⟨h1, h2⟩ := b_and h
      have := of_decide_eq_true h1
      subst this
      have h2 : n = "ValueError.__new__" := by simpa using h2
      subst h2
      obtain ⟨nm, bs, mro, ns, qn, hd, sn, sub, ab, col, del⟩ := cd
      dsimp only at hm h3 h4
      have h3 : del = false := by simpa using h3
      subst hm h3 h4
      have hsl : sl = #[k0, k1, k2, k3, some (.builtin "ValueError.__new__"), k5] := by
        obtain ⟨l⟩ := sl
        simp only at hs
        rw [hs]
      subst hsl
      exact ⟨_, _, _, _, _, _, _, _, _, _, _, _, _, _, _, ho, h5⟩
    · cases hq
  · cases h
def fdB (P : Program) (K : PySem.W.Frag) (C : Addr) (f : Str) (fd : FuncData) : Bool := match fd.body, fd.code, fd.closure with
  | .stmts b, .ref c, [(k, cc)] => (match bodyB f b with
    | some (p, _) => decide (k = ("__class__" : Str)) && decide (fd.globals = mainGlobals) && decide (fd.builtins = builtinsNs) && decide (fd.defaults = .none) && decide (fd.kwdefaults = .none) && decide (fd.annotations = none) && parB p fd.params && notDun p && PySem.W.codeIn K (.ref c) fd.qualname && fileB P K c && cellB K cc C &&
        nscB (NS p) (PSl p) CL fd.scope && decide (fd.scope.names.lookup ("super" : Str) = some .globalImplicit) && decide (fd.scope.names.lookup ("str" : Str) = some .globalImplicit)
    | none => false)
  | _, _, _ => false
def ownB (P : Program) (K : PySem.W.Frag) (x f : Str) : Bool := match gAt K x with
  | some C => exB K C && clsB K C && xfB K C && decide (PySem.W.findIn K (.ref C) "__setattr__" = some (some (.builtin "object.__setattr__"))) && (PySem.W.clsIn K C).isSome && decide (PySem.W.mroIn K C (.ref C) = some true) &&
      decide (PySem.W.ks_superIn K C C "__init__" = some (some (.builtin "ValueError.__init__"))) && decide (PySem.W.subIn K (.ref C) (.type "ValueError") = some true) && decide (PySem.W.nsIn K cStatics "thirdparty.any" = some none) && decide (PySem.W.nsIn K mainGlobals "super" = some none) &&
      decide (PySem.W.nsIn K mainGlobals "str" = some none) && decide (PySem.W.findIn K (.ref C) f = some none) && !(P.main.scope.names.lookup ("super" : Str)).isSome && (match PySem.W.findIn K (.ref C) "__init__" with
        | some (some (.ref fI)) => decide (PySem.W.typeIn K (.ref fI) = some (.type "function")) && (match K.lookup fI with
          | some ⟨_, _, .func fd, _⟩ => fdB P K C f fd
          | _ => false)
        | _ => false)
  | none => false
theorem own_of {P : Program} {K : PySem.W.Frag} {x f : Str} (h : ownB P K x f = true) : ∃ a, XIn P K x (some f) a := by
  unfold ownB at h
  split at h
  case h_2 => cases h
  case h_1 C e =>
    obtain ⟨h, hI⟩ := b_and h
    obtain ⟨h, hs⟩ := b_and h
    obtain ⟨h, hno⟩ := b_and h
    obtain ⟨h, hstr⟩ := b_and h
    obtain ⟨h, hsup⟩ := b_and h
    obtain ⟨h, htp⟩ := b_and h
    obtain ⟨h, hisV⟩ := b_and h
    obtain ⟨h, hsI⟩ := b_and h
    obtain ⟨h, hmro⟩ := b_and h
    obtain ⟨h, hcd⟩ := b_and h
    obtain ⟨h, hsa⟩ := b_and h
    obtain ⟨h, hxf⟩ := b_and h
    obtain ⟨h, hcls⟩ := b_and h
    obtain ⟨h1, h4⟩ := b_and h
    obtain ⟨h5, h6⟩ := b_and h1
    split at hI
    case h_2 => cases hI
    case h_1 fI hfI =>
      obtain ⟨htI, hI⟩ := b_and hI
      split at hI
      case h_2 => cases hI
      case h_1 oc od fd osl lk =>
        unfold fdB at hI
        split at hI
        case h_2 => cases hI
        case h_1 b c k cc hb hc hcl =>
          split at hI
          case h_2 => cases hI
          case h_1 p msg hbody =>
            obtain ⟨hI, i14⟩ := b_and hI
            obtain ⟨hI, i13⟩ := b_and hI
            obtain ⟨hI, i12⟩ := b_and hI
            obtain ⟨hI, i11⟩ := b_and hI
            obtain ⟨hI, i10⟩ := b_and hI
            obtain ⟨hI, i9⟩ := b_and hI
            obtain ⟨hI, i8⟩ := b_and hI
            obtain ⟨hI, i7⟩ := b_and hI
            obtain ⟨hI, i6⟩ := b_and hI
            obtain ⟨hI, i5⟩ := b_and hI
            obtain ⟨hI, i4⟩ := b_and hI
            obtain ⟨hI, i3⟩ := b_and hI
            obtain ⟨i1, i2⟩ := b_and hI
            obtain ⟨name, qual, params, body, scope, globals, closure, defaults, kwdefaults, doc, pm, ann, code, ctv, builtins⟩ := fd
            dsimp only at hb hc hcl i2 i3 i4 i5 i6 i7 i9 i12 i13 i14 lk
            have := of_decide_eq_true i1
            have e2 := of_decide_eq_true i2
            have e3 := of_decide_eq_true i3
            have e4 := of_decide_eq_true i4
            have e5 := of_decide_eq_true i5
            have e6 := of_decide_eq_true i6
            subst this hb hc hcl e2 e3 e4 e5 e6
            obtain ⟨hbod, hmsg⟩ := bodyB_of hbody
            obtain ⟨d1, d2⟩ := b_and i8
            obtain ⟨cd, hcd⟩ := Option.isSome_iff_exists.mp hcd
            have hfile : ∃ ccl cdd vs ccs file tf, K.lookup c = some ⟨ccl, cdd, .fields vs, ccs⟩ ∧ vs[2]? = some (.str file tf) ∧ ((P.main.file : Str) == file) = true := by
              unfold fileB at i10
              split at i10
              · rename_i q1 q2 vs q3 hl
                split at i10
                · rename_i file tf hv
                  exact ⟨q1, q2, vs, q3, file, tf, hl, hv, i10⟩
                · cases i10
              · cases i10
            have hcell : ∃ cl cld csl, K.lookup cc = some ⟨cl, cld, .cell (some (.ref C)), csl⟩ := by
              unfold cellB at i11
              split at i11
              · rename_i q1 q2 D q3 hl
                have := of_decide_eq_true i11
                subst this
                exact ⟨_, _, _, hl⟩
              · cases i11
            have hpar : ∃ a b, params = ⟨[], [a, b], none, [], [], none, []⟩ ∧ a.arg = ("self" : Str) ∧ b.arg = p ∧ (p = ("at" : Str) ∨ p = ("line" : Str) ∨ p = ("name" : Str)) := by
              unfold parB at i7
              split at i7
              · obtain ⟨k1, k3⟩ := b_and i7
                obtain ⟨k1, k2⟩ := b_and k1
                rw [Bool.or_eq_true, Bool.or_eq_true, decide_eq_true_eq, decide_eq_true_eq, decide_eq_true_eq] at k3
                exact ⟨_, _, rfl, of_decide_eq_true k1, of_decide_eq_true k2, k3⟩
              · cases i7
            obtain ⟨pa, pb, rfl, ha, hpb, hp3⟩ := hpar
            obtain ⟨cl, cld, csl, hcell⟩ := hcell
            refine ⟨C, gAt_of e, h5, of_decide_eq_true h6, of_decide_eq_true h4, fun z => (by cases z), fun g hg => ?_⟩
            cases hg
            refine ⟨xfB_ok hxf, of_decide_eq_true hstr, fI, ⟨name, qual, ⟨[], [pa, pb], none, [], [], none, []⟩, b, scope, [("__class__", cc)], c⟩, p, msg, ?_, ?_⟩
            · exact {
                T := ⟨clsB_of hcls, of_decide_eq_true hsa, of_decide_eq_true h6, of_decide_eq_true h4, h5⟩
                iC := hfI
                tI := of_decide_eq_true htI
                lk := ⟨oc, od, doc, pm, ctv, osl, lk⟩
                cd := i9
                file := hfile
                cell := ⟨cc, cl, cld, csl, rfl, hcell⟩
                cls := ⟨cd, hcd⟩
                mro := of_decide_eq_true hmro
                sup := of_decide_eq_true hsI
                isV := of_decide_eq_true hisV
                tp := of_decide_eq_true htp
                no := of_decide_eq_true hsup
                nof := of_decide_eq_true hno
                top := by simpa using hs
                par := ⟨pa, rfl, ha⟩
                sc := nscope_by i12
                pd := by simpa using d1
                pc := by simpa using d2
                scS := of_decide_eq_true i13
                body := hbod }
            · refine ⟨hmsg, of_decide_eq_true i14, fun doc pm ctv us hl => ?_⟩
              match us, hl with
              | [u1, u2], _ =>
                obtain ⟨na, aa, posa⟩ := pa
                obtain ⟨nb, ab, posb⟩ := pb
                dsimp only at ha hpb
                subst ha
                subst hpb
                rcases hp3 with e | e | e <;> (subst e; rfl)
/-- all classes, and how they lie among each other -/
def allXB (P : Program) (K : PySem.W.Frag) : List (Str × Option Str) → Bool
  | [] => true
  | (x, none) :: r => plainB K x && allXB P K r
  | (x, some f) :: r => ownB P K x f && allXB P K r
theorem allX_of {P : Program} {K : PySem.W.Frag} : ∀ {l : List (Str × Option Str)}, allXB P K l = true → AllX P K l
  | [], _ => True.intro
  | (x, none) :: r, h => by
    obtain ⟨h1, h2⟩ := b_and h
    exact ⟨plain_of h1, allX_of h2⟩
  | (x, some f) :: r, h => by
    obtain ⟨h1, h2⟩ := b_and h
    exact ⟨own_of h1, allX_of h2⟩
def excCB (K : PySem.W.Frag) (D : Addr) : Bool := decide (PySem.W.findIn K (.ref D) "__getattribute__" = some (some (.builtin "BaseException.__getattribute__"))) && decide (PySem.W.findIn K (.ref D) "__getattr__" = some none) && decide (PySem.W.subIn K (.ref D) (.type "BaseException") = some true) && PySem.W.hasDictIn K D &&
  decide (PySem.W.findIn K (.ref D) "__class__" = some (some (.builtin "object.__class__"))) && decide (PySem.W.specialIn K (.builtin "object.__class__") "__get__" = some (some (.builtin "getset_descriptor.__get__"))) && decide (PySem.W.takesIn K (.builtin "object.__class__") = some true) && decide (PySem.W.mroIn K D (.type "object") = some true)
theorem excC_of {K : PySem.W.Frag} {D : Addr} (h : excCB K D = true) : ExcC K D := by
  obtain ⟨h, h8⟩ := b_and h
  obtain ⟨h, h7⟩ := b_and h
  obtain ⟨h, h6⟩ := b_and h
  obtain ⟨h, h5⟩ := b_and h
  obtain ⟨h, h4⟩ := b_and h
  obtain ⟨h, h3⟩ := b_and h
  obtain ⟨h1, h2⟩ := b_and h
  exact ⟨of_decide_eq_true h1, of_decide_eq_true h2, of_decide_eq_true h3, h4, of_decide_eq_true h5, of_decide_eq_true h6, of_decide_eq_true h7, of_decide_eq_true h8⟩
def mB (K : PySem.W.Frag) (x y : Str) (b : Bool) : Bool := match gAt K x, gAt K y with
  | some a, some c => decide (PySem.W.exmOne K (.ref a) (.ref c) = some b) && (excCB K a && decide (PySem.W.kitOne K (.ref a) (.ref c) = some b))
  | _, _ => false
def allMB (K : PySem.W.Frag) (T : Tab) : Bool := (List.range T.exs.length).all fun i => (List.range T.exs.length).all fun j => match T.exs[i]?, T.exs[j]? with
  | some x, some y => mB K x.1 y.1 ((T.subs.getD j []).contains i)
  | _, _ => false
theorem allM_of {K : PySem.W.Frag} {T : Tab} (h : allMB K T = true) : AllM K T := fun i j x y hx hy => by
  have hi := (List.getElem?_eq_some_iff.mp hx).1
  have hj := (List.getElem?_eq_some_iff.mp hy).1
  have h1 := List.all_eq_true.mp h i (List.mem_range.mpr hi)
  have h2 := List.all_eq_true.mp h1 j (List.mem_range.mpr hj)
  rw [hx, hy] at h2
  have h2 : mB K x.1 y.1 ((T.subs.getD j []).contains i) = true := h2
  unfold mB at h2
  split at h2
  · rename_i a c ea ec
    obtain ⟨k1, k2⟩ := b_and h2
    obtain ⟨k2, k3⟩ := b_and k2
    exact ⟨a, c, gAt_of ea, gAt_of ec, of_decide_eq_true k1, excC_of k2, of_decide_eq_true k3⟩
  · cases h2
/-- the law's promise, the classes read off the written part -/
def lawSp (K : PySem.W.Frag) (l : List (Str × Option Str)) (np : Nat) (g : List PV → Store → Out PV) : Sp := spF K (xcOf K l) np g
theorem law_sp2 {K : PySem.W.Frag} {l : List (Str × Option Str)} {fuel n i : Nat} {fns : List Fn} {H : Hp} {a : Addr} {ns : List Int}
    (h : ∃ S', callF fuel fns n i [.lst (ns.map fun z => .int z)] [] = .ok (.bl true) S') (hS : SqL K H a (ns.map V.int)) : lawSp K l 1 (callF fuel fns n i) [.ref a] H (fun v _ => v = .bl true) fun _ _ _ => False := law_sp h hS
end MK

set_option linter.all false
set_option autoImplicit false
set_option Elab.async false
set_option maxRecDepth 100000
set_option maxHeartbeats 16000000
/-! K12: the core program, against the text. Printed by mk.py. -/
namespace K12
open PySem PySem.Spec PyProof.Rows L2 MK
def topS (i : Nat) : Stmt := PySem.Challenge.pw_maketrue_k12_words_and_halves.main.body.getD i (.Pass ⟨0, 0, 0, 0⟩)
def metS (i j : Nat) : Stmt := match topS i with
  | .ClassDef _ _ _ body _ _ _ _ _ _ _ => body.getD j (.Pass ⟨0, 0, 0, 0⟩)
  | st => st
--- plain
def vLETTERS : PV := (.str [97, 98, 99, 100, 101, 102, 103, 104, 105, 106, 107, 108, 109, 110, 111, 112, 113, 114, 115, 116, 117, 118, 119, 120, 121, 122])
def vMOST_NAME : PV := (.int 8)
def vMOST_CONTENT_rules : PV := (.int 40)
def vMOST_DEEP : PV := (.int 5)
def vMOST_DEEDS : PV := (.int 30)
def vFORM : PV := (.tup [(.str [102, 111, 114, 109])])
def vMOST_CONTENT_halves : PV := (.int 40)
def vLONG : PV := (.tup [(.str [102, 97, 117, 108, 116]), (.str [108, 111, 110, 103]), (.str [])])
def vPARTS : List (List Nat × Int) := [([110, 97, 109, 101, 100], 1), ([106, 111, 105, 110], 2), ([104, 101, 97, 100], 1), ([98, 97, 99, 107], 1), ([115, 111, 114, 116], 1), ([115, 119, 97, 112], 1), ([115, 97, 109, 101], 4)]
def vPLAIN : List (List Nat × Int) := [([116, 101, 120, 116], 0), ([110, 101, 101, 100], 0), ([110, 97, 109, 101, 100], 0), ([106, 111, 105, 110], 0), ([104, 101, 97, 100], 1), ([98, 97, 99, 107], 0), ([115, 111, 114, 116], 0), ([115, 119, 97, 112], 2), ([115, 97, 109, 101], 0)]
def vLAYS : List (List Nat × Int) := [([116, 101, 120, 116], 1), ([110, 101, 101, 100], 1), ([110, 97, 109, 101, 100], 0), ([106, 111, 105, 110], (-1)), ([104, 101, 97, 100], 0), ([98, 97, 99, 107], 0), ([115, 111, 114, 116], 0), ([115, 119, 97, 112], 0), ([115, 97, 109, 101], (-2)), ([108, 101, 97, 112], 0)]
def b_is_whole : List S := [
  .ret (.and [.isi (.var 0) .int, .not (.isi (.var 0) .bool), .cmp2 .le .le (.var 1) (.var 0) (.var 2)])]
def f_is_whole : Fn := ⟨3, 3, true, b_is_whole, false⟩
def b__are_letters : List S := [
  .ret (.and [.isi (.var 0) .str, .cmp2 .le .le (.var 1) (.bi .len [.var 0]) (.var 2), .bi .all [.lc false [3] (.nm 3) (.seq (.var 0)) [] (.cmp .mem (.var 3) (.gl vLETTERS))]])]
def f__are_letters : Fn := ⟨3, 4, true, b__are_letters, false⟩
def b_is_name : List S := [
  .ret (.call 1 [.var 0, .lit (.int 1), .gl vMOST_NAME])]
def f_is_name : Fn := ⟨1, 1, true, b_is_name, false⟩
def b_is_content : List S := [
  .ret (.call 1 [.var 0, .lit (.int 0), .gl vMOST_CONTENT_rules])]
def f_is_content : Fn := ⟨1, 1, true, b_is_content, false⟩
def b_parts_of : List S := [
  .ret (.ite (.gdin false vPARTS (.ix (.var 0) (.lit (.int 0)))) (.sl true false (.var 0) (.bin .add (.lit (.int 1)) (.gdx vPLAIN (.ix (.var 0) (.lit (.int 0))))) (.lit .non)) (.tup []))]
def f_parts_of : Fn := ⟨1, 1, true, b_parts_of, false⟩
def b__is_deed : List S := [
  .ifs (.or [.not (.isi (.var 0) .tuple), .cmp .eq (.bi .len [.var 0]) (.lit (.int 0)), .not (.isi (.ix (.var 0) (.lit (.int 0))) .str), .gdin true vPLAIN (.ix (.var 0) (.lit (.int 0)))]) [.ret (.lit (.bl false))] [],
  .ifs (.gdin true vPARTS (.ix (.var 0) (.lit (.int 0)))) [.ifs (.cmp .ne (.bi .len [.var 0]) (.lit (.int 2))) [.ret (.lit (.bl false))] [], .ret (.ite (.cmp .eq (.ix (.var 0) (.lit (.int 0))) (.lit (.str [116, 101, 120, 116]))) (.call 3 [.ix (.var 0) (.lit (.int 1))]) (.call 2 [.ix (.var 0) (.lit (.int 1))]))] [],
  .ifs (.or [.cmp .ne (.bi .len [.var 0]) (.bin .add (.bin .add (.lit (.int 1)) (.gdx vPLAIN (.ix (.var 0) (.lit (.int 0))))) (.gdx vPARTS (.ix (.var 0) (.lit (.int 0))))), .cmp .eq (.var 1) (.lit (.int 0))]) [.ret (.lit (.bl false))] [],
  .ifs (.and [.cmp .eq (.ix (.var 0) (.lit (.int 0))) (.lit (.str [104, 101, 97, 100])), .not (.call 0 [.ix (.var 0) (.lit (.int 1)), .lit (.int 0), .gl vMOST_CONTENT_rules])]) [.ret (.lit (.bl false))] [],
  .ifs (.and [.cmp .eq (.ix (.var 0) (.lit (.int 0))) (.lit (.str [115, 119, 97, 112])), .not (.bi .all [.lc false [2] (.nm 2) (.seq (.sl true true (.var 0) (.lit (.int 1)) (.lit (.int 3)))) [] (.call 1 [.var 2, .lit (.int 1), .lit (.int 1)])])]) [.ret (.lit (.bl false))] [],
  .ret (.bi .all [.lc false [2] (.nm 2) (.seq (.call 4 [.var 0])) [] (.call 5 [.var 2, .bin .sub (.var 1) (.lit (.int 1))])])]
def f__is_deed : Fn := ⟨2, 3, true, b__is_deed, false⟩
def b__count : List S := [
  .ret (.bin .add (.lit (.int 1)) (.bi .sum [.lc false [1] (.nm 1) (.seq (.call 4 [.var 0])) [] (.call 6 [.var 1])]))]
def f__count : Fn := ⟨1, 2, true, b__count, false⟩
def b_is_deed : List S := [
  .ret (.and [.call 5 [.var 0, .gl vMOST_DEEP], .cmp .le (.call 6 [.var 0]) (.gl vMOST_DEEDS)])]
def f_is_deed : Fn := ⟨1, 1, true, b_is_deed, false⟩
def b__words : List S := [
  .asg (.nm 1) (.ix (.var 0) (.lit (.int 0))),
  .ifs (.cmp .mem (.var 1) (.tup [.lit (.str [116, 101, 120, 116]), .lit (.str [110, 101, 101, 100])])) [.ret (.lst false [.var 0])] [],
  .ifs (.cmp .eq (.var 1) (.lit (.str [115, 97, 109, 101]))) [.asg (.tp [(.nm 3), (.nm 4), (.nm 5), (.nm 6)]) (.lc false [7] (.nm 7) (.seq (.sl true false (.var 0) (.lit (.int 1)) (.lit .non))) [] (.call 8 [.var 7])), .asg (.nm 2) (.bin .add (.bin .add (.bin .add (.lst false [.tup [.var 1, .bin .add (.bi .len [.var 5]) (.lit (.int 1))]]) (.var 5)) (.lst false [.tup [.lit (.str [108, 101, 97, 112]), .bi .len [.var 6]]])) (.var 6)), .ret (.bin .add (.bin .add (.var 3) (.var 4)) (.var 2))] [],
  .ifs (.cmp .eq (.var 1) (.lit (.str [106, 111, 105, 110]))) [.ret (.bin .add (.bin .add (.call 8 [.ix (.var 0) (.lit (.int 1))]) (.call 8 [.ix (.var 0) (.lit (.int 2))])) (.lst false [.tup [.var 1]]))] [],
  .ret (.bin .add (.call 8 [.ix (.var 0) (.neg (.lit (.int 1)))]) (.lst false [.sl false true (.var 0) (.lit .non) (.neg (.lit (.int 1)))]))]
def f__words : Fn := ⟨1, 8, true, b__words, false⟩
def b_words_of : List S := [
  .ifs (.not (.call 7 [.var 0])) [.raise 0 []] [],
  .ret (.bi .tuple [.call 8 [.var 0]])]
def f_words_of : Fn := ⟨1, 1, true, b_words_of, false⟩
def b__depths : List S := [
  .asg (.nm 1) (.dlit [.lit (.int 0), .lit (.int 0)]),
  .for_ (.tp [(.nm 2), (.nm 3)]) (.enum (.var 0)) [.asg (.nm 4) (.bin .add (.dix (.var 1) (.var 2)) (.gdx vLAYS (.ix (.var 3) (.lit (.int 0))))), .ifs (.cmp .eq (.ix (.var 3) (.lit (.int 0))) (.lit (.str [108, 101, 97, 112]))) [.dput (.var 1) (.bin .add (.var 2) (.lit (.int 1))) (.bin .sub (.dix (.var 1) (.var 2)) (.lit (.int 1))), .dput (.var 1) (.bin .add (.bin .add (.var 2) (.lit (.int 1))) (.ix (.var 3) (.lit (.int 1)))) (.var 4)] [.dput (.var 1) (.bin .add (.var 2) (.lit (.int 1))) (.var 4)]],
  .ret (.var 1)]
def f__depths : Fn := ⟨1, 5, false, b__depths, false⟩
def b_half_fault : List S := [
  .ifs (.or [.not (.isi (.var 0) .tuple), .cmp .ne (.bi .len [.var 0]) (.lit (.int 4)), .not (.call 7 [.ix (.var 0) (.lit (.int 0))])]) [.ret (.gl vFORM)] [],
  .asg (.tp [(.nm 3), (.nm 4), (.nm 5), (.nm 6)]) (.var 0),
  .ifs (.or [.not (.isi (.var 4) .int), .isi (.var 4) .bool]) [.ret (.gl vFORM)] [],
  .ifs (.or [.not (.isi (.var 5) .tuple), .not (.isi (.var 6) .tuple)]) [.ret (.gl vFORM)] [],
  .ifs (.or [.not (.bi .all [.lc false [7] (.nm 7) (.seq (.var 5)) [] (.call 3 [.var 7])]), .not (.bi .all [.lc false [7] (.nm 7) (.seq (.var 6)) [] (.call 2 [.var 7])])]) [.ret (.gl vFORM)] [],
  .ifs (.cmp .lt (.dcnt 7 (.var 6)) (.bi .len [.var 6])) [.ret (.gl vFORM)] [],
  .asg (.nm 1) (.call 8 [.ix (.var 0) (.lit (.int 0))]),
  .ifs (.not (.cmp2 .le .le (.lit (.int 0)) (.var 4) (.bi .len [.var 1]))) [.ret (.tup [.lit (.str [112, 108, 97, 99, 101])])] [],
  .asg (.nm 2) (.dix (.call 10 [.var 1]) (.var 4)),
  .ret (.ite (.cmp .ne (.bi .len [.var 5]) (.var 2)) (.tup [.lit (.str [112, 105, 108, 101]), .var 2]) (.lit .non))]
def f_half_fault : Fn := ⟨1, 8, true, b_half_fault, false⟩
def b_begun : List S := [
  .ifs (.not (.call 7 [.var 0])) [.raise 0 []] [],
  .ret (.tup [.var 0, .lit (.int 0), .tup [], .tup []])]
def f_begun : Fn := ⟨1, 1, true, b_begun, false⟩
def b_gone_on : List S := [
  .ifs (.cmp .notN (.call 11 [.var 0]) (.lit .non)) [.raise 1 []] [],
  .ret (.meth [68, 111, 105, 110, 103] 30 [103, 111, 95, 111, 110] (.make [68, 111, 105, 110, 103] 22 [.var 0, .var 1]) [])]
def f_gone_on : Fn := ⟨2, 2, true, b_gone_on, false⟩
def b__law_draws : List S := [
  .asg (.nm 2) (.lst true []),
  .asg (.nm 3) (.lit (.int 7)),
  .for_ (.nm 4) (.seq (.sl false true (.var 0) (.lit .non) (.lit (.int 63)))) [.asg (.nm 6) (.bi .abs [.var 4]), .asg (.nm 3) (.bin .mod (.bi .int [.bin .add (.bin .add (.bin .mul (.var 3) (.lit (.int 48271))) (.var 6)) (.lit (.int 11))]) (.lit (.int 2147483647))), .ifs (.cmp .ge (.var 6) (.bin .pow (.lit (.int 10)) (.lit (.int 18)))) [.for_ (.nm 5) (.rng [.lit (.int 60)]) [.ifs (.cmp .gt (.var 6) (.lit (.int 0))) [.ex (.app (.var 2) (.bin .mod (.bi .int [.var 6]) (.lit (.int 1009)))), .asg (.nm 6) (.bin .fdiv (.var 6) (.lit (.int 1009)))] []]] [.ex (.app (.var 2) (.bin .mod (.bin .fdiv (.bi .int [.bin .add (.bin .mul (.var 3) (.lit (.int 16807))) (.lit (.int 5))]) (.lit (.int 3))) (.lit (.int 65521))))]],
  .for_ (.nm 5) (.rng [.var 1]) [.ifs (.cmp .lt (.bi .len [.var 2]) (.var 1)) [.asg (.nm 3) (.bin .mod (.bi .int [.bin .add (.bin .add (.bin .mul (.var 3) (.lit (.int 69621))) (.var 5)) (.lit (.int 1))]) (.lit (.int 2147483647))), .ex (.app (.var 2) (.bin .mod (.bin .fdiv (.bi .int [.var 3]) (.lit (.int 7))) (.lit (.int 65521))))] []],
  .ret (.sl false true (.var 2) (.lit .non) (.var 1))]
def f__law_draws : Fn := ⟨2, 7, true, b__law_draws, false⟩
def b__law_deed : List S := [
  .asg (.nm 4) (.bi .int [.ix (.var 0) (.bin .mod (.var 1) (.bi .len [.var 0]))]),
  .asg (.nm 5) (.bin .mod (.var 4) (.ite (.cmp .eq (.var 3) (.lit (.int 0))) (.lit (.int 3)) (.lit (.int 10)))),
  .ifs (.cmp .eq (.var 5) (.lit (.int 0))) [.ret (.tup [.lit (.str [116, 101, 120, 116]), .ix (.lst false [.lit (.str []), .lit (.str [120]), .lit (.str [97, 98]), .lit (.str [98, 97]), .lit (.str [98]), .lit (.str [99]), .lit (.str [122, 122])]) (.bin .mod (.bin .fdiv (.var 4) (.lit (.int 16))) (.lit (.int 7)))])] [],
  .ifs (.cmp .lt (.var 5) (.lit (.int 3))) [.ret (.tup [.lit (.str [110, 101, 101, 100]), .ix (.var 2) (.bin .mod (.bin .fdiv (.var 4) (.lit (.int 16))) (.bi .len [.var 2]))])] [],
  .asg (.nm 6) (.call 15 [.var 0, .bin .add (.bin .mul (.lit (.int 3)) (.var 1)) (.lit (.int 1)), .var 2, .bin .sub (.var 3) (.lit (.int 1))]),
  .ifs (.cmp .lt (.var 5) (.lit (.int 5))) [.ret (.tup [.lit (.str [106, 111, 105, 110]), .var 6, .call 15 [.var 0, .bin .add (.bin .mul (.lit (.int 3)) (.var 1)) (.lit (.int 2)), .var 2, .bin .sub (.var 3) (.lit (.int 1))]])] [],
  .ifs (.cmp .eq (.var 5) (.lit (.int 5))) [.ret (.tup [.lit (.str [110, 97, 109, 101, 100]), .var 6])] [],
  .ifs (.cmp .eq (.var 5) (.lit (.int 6))) [.ret (.ix (.lst false [.tup [.lit (.str [98, 97, 99, 107]), .var 6], .tup [.lit (.str [115, 111, 114, 116]), .var 6], .tup [.lit (.str [104, 101, 97, 100]), .bin .mod (.bin .fdiv (.var 4) (.lit (.int 16))) (.lit (.int 3)), .var 6], .tup [.lit (.str [115, 119, 97, 112]), .lit (.str [97]), .lit (.str [98]), .var 6]]) (.bin .mod (.bin .fdiv (.var 4) (.lit (.int 64))) (.lit (.int 4))))] [],
  .ifs (.cmp .lt (.var 5) (.lit (.int 9))) [.asg (.tp [(.nm 7), (.nm 8)]) (.tup [.call 15 [.var 0, .bin .add (.bin .mul (.lit (.int 3)) (.var 1)) (.lit (.int 2)), .var 2, .bin .sub (.var 3) (.lit (.int 1))], .call 15 [.var 0, .bin .add (.bin .mul (.lit (.int 5)) (.var 1)) (.lit (.int 3)), .var 2, .lit (.int 0)]]), .ret (.tup [.lit (.str [115, 97, 109, 101]), .var 6, .var 7, .var 8, .call 15 [.var 0, .bin .add (.bin .mul (.lit (.int 5)) (.var 1)) (.lit (.int 4)), .var 2, .lit (.int 0)]])] [],
  .ret (.tup [.lit (.str [104, 101, 97, 100]), .lit (.int 1), .var 6])]
def f__law_deed : Fn := ⟨4, 9, true, b__law_deed, false⟩
def b__law_words : List S := [
  .asg (.tp [(.nm 3), (.nm 4)]) (.tup [.ix (.var 0) (.lit (.int 0)), .tup []]),
  .ifs (.cmp .mem (.var 3) (.tup [.lit (.str [116, 101, 120, 116]), .lit (.str [110, 101, 101, 100])])) [.ret (.tup [.var 0])] [],
  .asg (.nm 1) (.lc false [2] (.nm 2) (.seq (.var 0)) [.isi (.var 2) .tuple] (.call 16 [.var 2])),
  .ifs (.cmp .eq (.var 3) (.lit (.str [115, 97, 109, 101]))) [.ret (.bin .add (.bin .add (.bin .add (.bin .add (.bin .add (.ix (.var 1) (.lit (.int 0))) (.ix (.var 1) (.lit (.int 1)))) (.tup [.tup [.lit (.str [115, 97, 109, 101]), .bin .add (.bi .len [.ix (.var 1) (.lit (.int 2))]) (.lit (.int 1))]])) (.ix (.var 1) (.lit (.int 2)))) (.tup [.tup [.lit (.str [108, 101, 97, 112]), .bi .len [.ix (.var 1) (.lit (.int 3))]]])) (.ix (.var 1) (.lit (.int 3))))] [],
  .for_ (.nm 2) (.seq (.var 1)) [.asg (.nm 4) (.bin .add (.var 4) (.var 2))],
  .ret (.bin .add (.var 4) (.tup [.bi .tuple [.lc false [2] (.nm 2) (.seq (.var 0)) [.not (.isi (.var 2) .tuple)] (.var 2)]]))]
def f__law_words : Fn := ⟨1, 5, true, b__law_words, false⟩
def b__law_depths : List S := [
  .asg (.tp [(.nm 1), (.nm 2)]) (.tup [.dlit [], .lst false [.tup [.lit (.int 0), .lit (.int 0)]]]),
  .while_ (.cmp .gt (.bi .len [.var 2]) (.lit (.int 0))) [.asg (.tp [(.nm 3), (.nm 4)]) (.ix (.var 2) (.neg (.lit (.int 1)))), .asg (.nm 2) (.sl false true (.var 2) (.lit .non) (.neg (.lit (.int 1)))), .ifs (.din true (.var 3) (.var 1)) [.dput (.var 1) (.var 3) (.var 4), .ifs (.cmp .lt (.var 3) (.bi .len [.var 0])) [.asg (.nm 5) (.ix (.var 0) (.var 3)), .ifs (.cmp .eq (.ix (.var 5) (.lit (.int 0))) (.lit (.str [115, 97, 109, 101]))) [.asg (.nm 2) (.bin .add (.var 2) (.lst false [.tup [.bin .add (.var 3) (.lit (.int 1)), .bin .sub (.var 4) (.lit (.int 2))], .tup [.bin .add (.bin .add (.var 3) (.lit (.int 1))) (.ix (.var 5) (.lit (.int 1))), .bin .sub (.var 4) (.lit (.int 2))]]))] [.ifs (.cmp .eq (.ix (.var 5) (.lit (.int 0))) (.lit (.str [108, 101, 97, 112]))) [.asg (.nm 2) (.bin .add (.var 2) (.lst false [.tup [.bin .add (.bin .add (.var 3) (.lit (.int 1))) (.ix (.var 5) (.lit (.int 1))), .var 4]]))] [.asg (.nm 2) (.bin .add (.var 2) (.lst false [.tup [.bin .add (.var 3) (.lit (.int 1)), .bin .add (.var 4) (.dget2 (.dlit [.lit (.str [116, 101, 120, 116]), .lit (.int 1), .lit (.str [110, 101, 101, 100]), .lit (.int 1), .lit (.str [106, 111, 105, 110]), .neg (.lit (.int 1))]) (.ix (.var 5) (.lit (.int 0))) (.lit (.int 0)))]]))]]] []] []],
  .ret (.var 1)]
def f__law_depths : Fn := ⟨1, 6, false, b__law_depths, false⟩
def b__law_is_text : List S := [
  .ret (.and [.isi (.var 0) .str, .cmp2 .le .le (.var 1) (.bi .len [.var 0]) (.var 2), .bi .all [.lc false [3] (.nm 3) (.seq (.var 0)) [] (.cmp .mem (.var 3) (.lit (.str [97, 98, 99, 100, 101, 102, 103, 104, 105, 106, 107, 108, 109, 110, 111, 112, 113, 114, 115, 116, 117, 118, 119, 120, 121, 122])))]])]
def f__law_is_text : Fn := ⟨3, 4, true, b__law_is_text, false⟩
def b__law_due : List S := [
  .ifs (.or [.not (.isi (.var 0) .tuple), .cmp .ne (.bi .len [.var 0]) (.lit (.int 4)), .not (.call 7 [.ix (.var 0) (.lit (.int 0))]), .not (.isi (.ix (.var 0) (.lit (.int 1))) .int), .isi (.ix (.var 0) (.lit (.int 1))) .bool]) [.ret (.tup [.lit (.str [102, 111, 114, 109])])] [],
  .ifs (.or [.not (.isi (.ix (.var 0) (.lit (.int 2))) .tuple), .not (.isi (.ix (.var 0) (.lit (.int 3))) .tuple), .not (.bi .all [.lc false [2] (.nm 2) (.seq (.ix (.var 0) (.lit (.int 2)))) [] (.call 18 [.var 2, .lit (.int 0), .lit (.int 40)])])]) [.ret (.tup [.lit (.str [102, 111, 114, 109])])] [],
  .ifs (.or [.not (.bi .all [.lc false [2] (.nm 2) (.seq (.ix (.var 0) (.lit (.int 3)))) [] (.call 18 [.var 2, .lit (.int 1), .lit (.int 8)])]), .cmp .lt (.scnt (.ix (.var 0) (.lit (.int 3)))) (.bi .len [.ix (.var 0) (.lit (.int 3))])]) [.ret (.tup [.lit (.str [102, 111, 114, 109])])] [],
  .asg (.nm 1) (.call 17 [.call 16 [.ix (.var 0) (.lit (.int 0))]]),
  .ifs (.din true (.ix (.var 0) (.lit (.int 1))) (.var 1)) [.ret (.tup [.lit (.str [112, 108, 97, 99, 101])])] [],
  .ret (.ite (.cmp .ne (.bi .len [.ix (.var 0) (.lit (.int 2))]) (.dix (.var 1) (.ix (.var 0) (.lit (.int 1))))) (.tup [.lit (.str [112, 105, 108, 101]), .dix (.var 1) (.ix (.var 0) (.lit (.int 1)))]) (.lit .non))]
def f__law_due : Fn := ⟨1, 3, true, b__law_due, false⟩
def b__law_error : List S := [
  .try_ [.ifs (.cmp .eq (.var 0) (.lit (.int 0))) [.ex (.call 9 [.var 1])] [.ifs (.cmp .eq (.var 0) (.lit (.int 1))) [.ex (.call 12 [.var 1])] [.ex (.call 13 [.var 1, .dlit []])]]] [⟨[0], none, .ret (.lit (.str [100, 101, 101, 100]))⟩, ⟨[0, 1, 2], some 2, .ret (.isx 0 [1] (.lit (.str [104, 97, 108, 102])) (.lit (.str [111, 116, 104, 101, 114])))⟩],
  .ret (.lit (.str [110, 111, 110, 101]))]
def f__law_error : Fn := ⟨2, 3, true, b__law_error, false⟩
def b_law : List S := [
  .asg (.nm 1) (.call 14 [.var 0, .lit (.int 60)]),
  .for_ (.nm 2) (.rng [.lit (.int 6)]) [.asg (.nm 4) (.call 15 [.var 1, .bin .add (.bin .mul (.lit (.int 3)) (.var 2)) (.lit (.int 1)), .lst false [.lit (.str [97]), .lit (.str [98]), .lit (.str [115])], .lit (.int 3)]), .asg (.nm 5) (.call 16 [.var 4]), .asg (.nm 6) (.call 17 [.var 5]), .ifs (.or [.cmp .ne (.call 9 [.var 4]) (.var 5), .cmp .ne (.call 12 [.var 4]) (.tup [.var 4, .lit (.int 0), .tup [], .tup []]), .cmp .ne (.bi .sorted [.var 6]) (.lrng [.bin .add (.bi .len [.var 5]) (.lit (.int 1))]), .cmp .ne (.dix (.var 6) (.bi .len [.var 5])) (.lit (.int 1))]) [.ret (.lit (.bl false))] [], .for_ (.nm 7) (.rng [.neg (.lit (.int 1)), .bin .add (.bi .len [.var 5]) (.lit (.int 2))]) [.asg (.nm 12) (.dget2 (.var 6) (.var 7) (.lit (.int 1))), .for_ (.nm 13) (.seq (.tup [.bin .mul (.tup [.lit (.str [120])]) (.var 12), .bin .mul (.tup [.lit (.str [97, 98])]) (.bin .add (.var 12) (.lit (.int 1))), .bin .mul (.tup [.lit (.str [])]) (.bi .max2 [.lit (.int 0), .bin .sub (.var 12) (.lit (.int 1))])])) [.asg (.nm 10) (.tup [.var 4, .var 7, .var 13, .tup [.lit (.str [97]), .lit (.str [115])]]), .ifs (.cmp .ne (.call 11 [.var 10]) (.call 19 [.var 10])) [.ret (.lit (.bl false))] []]], .asg (.nm 8) (.tup [.var 4, .lit (.int 0), .tup [], .tup [.lit (.str [97])]]), .asg (.nm 9) (.lst false [.var 8, .bi .list [.var 8], .sl false true (.var 8) (.lit .non) (.lit (.int 3)), .bin .add (.var 8) (.tup [.lit (.int 0)]), .lit .non, .lit (.int 7), .tup [.tup [.lit (.str [84, 101, 120, 116]), .lit (.str [120])], .lit (.int 0), .tup [], .tup []], .tup [.bi .list [.var 4], .lit (.int 0), .tup [], .tup []], .tup [.var 4, .lit (.bl true), .tup [], .tup []], .tup [.var 4, .lit .non, .tup [], .tup []], .tup [.var 4, .lit (.str [48]), .tup [], .tup []]]), .asg (.nm 9) (.bin .add (.var 9) (.lst false [.tup [.var 4, .lit (.int 0), .lst false [], .tup []], .tup [.var 4, .lit (.int 0), .tup [], .lst false []], .tup [.var 4, .lit (.int 0), .tup [.lit (.str [88])], .tup []], .tup [.var 4, .lit (.int 0), .tup [.bin .mul (.lit (.str [120])) (.lit (.int 41))], .tup []], .tup [.var 4, .lit (.int 0), .tup [.lit .non], .tup []], .tup [.var 4, .lit (.int 0), .tup [], .tup [.lit (.str [97]), .lit (.str [97])]]])), .for_ (.nm 10) (.seq (.bin .add (.var 9) (.lst false [.tup [.var 4, .lit (.int 0), .tup [], .tup [.lit (.str [])]], .tup [.var 4, .lit (.int 0), .tup [], .tup [.lit (.str [97, 98, 99, 100, 101, 102, 103, 104, 105])]], .tup [.var 4, .lit (.int 0), .tup [], .tup [.lit (.int 3)]], .tup [.var 4, .bi .len [.var 5], .tup [.bin .mul (.lit (.str [120])) (.lit (.int 40))], .tup []]]))) [.asg (.nm 14) (.call 19 [.var 10]), .ifs (.or [.cmp .ne (.call 11 [.var 10]) (.var 14), .cmp .ne (.cmp .eq (.call 20 [.lit (.int 2), .var 10]) (.lit (.str [104, 97, 108, 102]))) (.cmp .notN (.var 14) (.lit .non))]) [.ret (.lit (.bl false))] []], .for_ (.nm 11) (.seq (.lst false [.lit .non, .tup [], .tup [.lit (.str [116, 101, 120, 116])], .tup [.lit (.str [110, 101, 101, 100]), .lit (.str [])], .tup [.lit (.str [106, 111, 105, 110]), .var 4], .tup [.lit (.str [104, 101, 97, 100]), .lit (.int 41), .var 4], .bi .list [.var 4], .lit (.int 7)])) [.ifs (.or [.call 7 [.var 11], .cmp .ne (.call 20 [.lit (.int 0), .var 11]) (.lit (.str [100, 101, 101, 100])), .cmp .ne (.call 20 [.lit (.int 1), .var 11]) (.lit (.str [100, 101, 101, 100]))]) [.ret (.lit (.bl false))] []]],
  .asg (.nm 3) (.tup [.lit (.str [115, 97, 109, 101]), .tup [.lit (.str [110, 101, 101, 100]), .lit (.str [97])], .tup [.lit (.str [116, 101, 120, 116]), .lit (.str [120])], .tup [.lit (.str [116, 101, 120, 116]), .lit (.str [121])], .tup [.lit (.str [98, 97, 99, 107]), .tup [.lit (.str [110, 101, 101, 100]), .lit (.str [98])]]]),
  .ifs (.cmp .ne (.call 9 [.var 3]) (.tup [.tup [.lit (.str [110, 101, 101, 100]), .lit (.str [97])], .tup [.lit (.str [116, 101, 120, 116]), .lit (.str [120])], .tup [.lit (.str [115, 97, 109, 101]), .lit (.int 2)], .tup [.lit (.str [116, 101, 120, 116]), .lit (.str [121])], .tup [.lit (.str [108, 101, 97, 112]), .lit (.int 2)], .tup [.lit (.str [110, 101, 101, 100]), .lit (.str [98])], .tup [.lit (.str [98, 97, 99, 107])]])) [.ret (.lit (.bl false))] [],
  .ret (.and [.cmp .isN (.call 11 [.tup [.var 3, .lit (.int 5), .tup [], .tup [.lit (.str [97])]]]) (.lit .non), .cmp .eq (.call 11 [.tup [.var 3, .lit (.int 4), .tup [], .tup []]]) (.tup [.lit (.str [112, 105, 108, 101]), .lit (.int 1)])])]
def f_law : Fn := ⟨1, 15, true, b_law, false⟩
def b_Doing___init__ : List S := [
  .asgA [.at_ [68, 111, 105, 110, 103] 0 [95, 100, 101, 101, 100], .at_ [68, 111, 105, 110, 103] 0 [95, 112, 108, 97, 99, 101], .nm 3, .nm 4] (.var 1),
  .sfld [68, 111, 105, 110, 103] (.var 0) [95, 119, 111, 114, 100, 115] (.call 8 [.fld [68, 111, 105, 110, 103] (.var 0) [95, 100, 101, 101, 100]]),
  .sfld [68, 111, 105, 110, 103] (.var 0) [95, 112, 105, 108, 101] (.lof (.var 3)),
  .sfld [68, 111, 105, 110, 103] (.var 0) [95, 110, 101, 101, 100, 115] (.lof (.var 4)),
  .sfld [68, 111, 105, 110, 103] (.var 0) [95, 107, 110, 111, 119, 110] (.var 2)]
def f_Doing___init__ : Fn := ⟨3, 5, false, b_Doing___init__, false⟩
def b_Doing__half : List S := [
  .ret (.tup [.fld [68, 111, 105, 110, 103] (.var 0) [95, 100, 101, 101, 100], .fld [68, 111, 105, 110, 103] (.var 0) [95, 112, 108, 97, 99, 101], .bi .tuple [.fld [68, 111, 105, 110, 103] (.var 0) [95, 112, 105, 108, 101]], .bi .tuple [.fld [68, 111, 105, 110, 103] (.var 0) [95, 110, 101, 101, 100, 115]]])]
def f_Doing__half : Fn := ⟨1, 1, false, b_Doing__half, true⟩
def b_Doing__asked : List S := [
  .ifs (.cmp .nmem (.var 1) (.fld [68, 111, 105, 110, 103] (.var 0) [95, 110, 101, 101, 100, 115])) [.ex (.app (.fld [68, 111, 105, 110, 103] (.var 0) [95, 110, 101, 101, 100, 115]) (.var 1))] [],
  .ifs (.din true (.var 1) (.fld [68, 111, 105, 110, 103] (.var 0) [95, 107, 110, 111, 119, 110])) [.ret (.tup [.lit (.str [119, 97, 105, 116, 115]), .var 1, .meth [68, 111, 105, 110, 103] 23 [95, 104, 97, 108, 102] (.var 0) []])] [],
  .asg (.nm 3) (.dix (.fld [68, 111, 105, 110, 103] (.var 0) [95, 107, 110, 111, 119, 110]) (.var 1)),
  .ifs (.cmp .eq (.ix (.var 3) (.lit (.int 0))) (.lit (.str [102, 97, 117, 108, 116]))) [.ret (.tup [.lit (.str [100, 111, 110, 101]), .var 3, .bi .tuple [.fld [68, 111, 105, 110, 103] (.var 0) [95, 110, 101, 101, 100, 115]]])] [],
  .sls (.fld [68, 111, 105, 110, 103] (.var 0) [95, 112, 105, 108, 101]) (.bin .sub (.bi .len [.fld [68, 111, 105, 110, 103] (.var 0) [95, 112, 105, 108, 101]]) (.var 2)) (.lst false [.ix (.var 3) (.lit (.int 1))]),
  .afld [68, 111, 105, 110, 103] (.var 0) [95, 112, 108, 97, 99, 101] .add (.lit (.int 1)),
  .ret (.lit .non)]
def f_Doing__asked : Fn := ⟨3, 4, false, b_Doing__asked, true⟩
def b_Doing__named : List S := [
  .asg (.nm 1) (.ix (.fld [68, 111, 105, 110, 103] (.var 0) [95, 112, 105, 108, 101]) (.neg (.lit (.int 1)))),
  .ifs (.not (.call 2 [.var 1])) [.ret (.tup [.lit (.str [100, 111, 110, 101]), .tup [.lit (.str [102, 97, 117, 108, 116]), .lit (.str [108, 97, 99, 107, 115]), .var 1], .bi .tuple [.fld [68, 111, 105, 110, 103] (.var 0) [95, 110, 101, 101, 100, 115]]])] [],
  .ret (.meth [68, 111, 105, 110, 103] 24 [95, 97, 115, 107, 101, 100] (.var 0) [.var 1, .lit (.int 1)])]
def f_Doing__named : Fn := ⟨1, 2, false, b_Doing__named, true⟩
def b_Doing__joined : List S := [
  .asg (.tp [(.nm 1), (.nm 2)]) (.tup [.pop (.fld [68, 111, 105, 110, 103] (.var 0) [95, 112, 105, 108, 101]), .pop (.fld [68, 111, 105, 110, 103] (.var 0) [95, 112, 105, 108, 101])]),
  .ifs (.cmp .gt (.bi .len [.bin .add (.var 2) (.var 1)]) (.gl vMOST_CONTENT_halves)) [.ret (.tup [.lit (.str [100, 111, 110, 101]), .gl vLONG, .bi .tuple [.fld [68, 111, 105, 110, 103] (.var 0) [95, 110, 101, 101, 100, 115]]])] [],
  .ex (.app (.fld [68, 111, 105, 110, 103] (.var 0) [95, 112, 105, 108, 101]) (.bin .add (.var 2) (.var 1))),
  .afld [68, 111, 105, 110, 103] (.var 0) [95, 112, 108, 97, 99, 101] .add (.lit (.int 1)),
  .ret (.lit .non)]
def f_Doing__joined : Fn := ⟨1, 3, false, b_Doing__joined, true⟩
def b_Doing__same : List S := [
  .asg (.tp [(.nm 2), (.nm 3)]) (.tup [.pop (.fld [68, 111, 105, 110, 103] (.var 0) [95, 112, 105, 108, 101]), .pop (.fld [68, 111, 105, 110, 103] (.var 0) [95, 112, 105, 108, 101])]),
  .afld [68, 111, 105, 110, 103] (.var 0) [95, 112, 108, 97, 99, 101] .add (.ite (.cmp .eq (.var 2) (.var 3)) (.lit (.int 1)) (.bin .add (.lit (.int 1)) (.var 1)))]
def f_Doing__same : Fn := ⟨2, 4, false, b_Doing__same, true⟩
def b_Doing__changed : List S := [
  .asg (.nm 2) (.pop (.fld [68, 111, 105, 110, 103] (.var 0) [95, 112, 105, 108, 101])),
  .ifs (.cmp .eq (.ix (.var 1) (.lit (.int 0))) (.lit (.str [104, 101, 97, 100]))) [.asg (.nm 2) (.sl false true (.var 2) (.lit .non) (.ix (.var 1) (.lit (.int 1))))] [.ifs (.cmp .eq (.ix (.var 1) (.lit (.int 0))) (.lit (.str [98, 97, 99, 107]))) [.asg (.nm 2) (.rev (.var 2))] [.ifs (.cmp .eq (.ix (.var 1) (.lit (.int 0))) (.lit (.str [115, 111, 114, 116]))) [.asg (.nm 2) (.bm .join (.lit (.str [])) [.bi .sorted [.var 2]])] [.asg (.nm 2) (.bm .join (.lit (.str [])) [.lc false [3] (.nm 3) (.seq (.var 2)) [] (.ite (.cmp .eq (.var 3) (.ix (.var 1) (.lit (.int 1)))) (.ix (.var 1) (.lit (.int 2))) (.var 3))])]]],
  .ex (.app (.fld [68, 111, 105, 110, 103] (.var 0) [95, 112, 105, 108, 101]) (.var 2)),
  .afld [68, 111, 105, 110, 103] (.var 0) [95, 112, 108, 97, 99, 101] .add (.lit (.int 1))]
def f_Doing__changed : Fn := ⟨2, 4, false, b_Doing__changed, true⟩
def b_Doing__word : List S := [
  .ifs (.cmp .eq (.ix (.var 1) (.lit (.int 0))) (.lit (.str [110, 101, 101, 100]))) [.ret (.meth [68, 111, 105, 110, 103] 24 [95, 97, 115, 107, 101, 100] (.var 0) [.ix (.var 1) (.lit (.int 1)), .lit (.int 0)])] [],
  .ifs (.cmp .eq (.ix (.var 1) (.lit (.int 0))) (.lit (.str [110, 97, 109, 101, 100]))) [.ret (.meth [68, 111, 105, 110, 103] 25 [95, 110, 97, 109, 101, 100] (.var 0) [])] [],
  .ifs (.cmp .eq (.ix (.var 1) (.lit (.int 0))) (.lit (.str [106, 111, 105, 110]))) [.ret (.meth [68, 111, 105, 110, 103] 26 [95, 106, 111, 105, 110, 101, 100] (.var 0) [])] [],
  .ifs (.cmp .eq (.ix (.var 1) (.lit (.int 0))) (.lit (.str [116, 101, 120, 116]))) [.ex (.app (.fld [68, 111, 105, 110, 103] (.var 0) [95, 112, 105, 108, 101]) (.ix (.var 1) (.lit (.int 1)))), .afld [68, 111, 105, 110, 103] (.var 0) [95, 112, 108, 97, 99, 101] .add (.lit (.int 1))] [.ifs (.cmp .eq (.ix (.var 1) (.lit (.int 0))) (.lit (.str [108, 101, 97, 112]))) [.afld [68, 111, 105, 110, 103] (.var 0) [95, 112, 108, 97, 99, 101] .add (.bin .add (.lit (.int 1)) (.ix (.var 1) (.lit (.int 1))))] [.ifs (.cmp .eq (.ix (.var 1) (.lit (.int 0))) (.lit (.str [115, 97, 109, 101]))) [.ex (.meth [68, 111, 105, 110, 103] 27 [95, 115, 97, 109, 101] (.var 0) [.ix (.var 1) (.lit (.int 1))])] [.ex (.meth [68, 111, 105, 110, 103] 28 [95, 99, 104, 97, 110, 103, 101, 100] (.var 0) [.var 1])]]],
  .ret (.lit .non)]
def f_Doing__word : Fn := ⟨2, 2, false, b_Doing__word, true⟩
def b_Doing_go_on : List S := [
  .while_ (.cmp .lt (.fld [68, 111, 105, 110, 103] (.var 0) [95, 112, 108, 97, 99, 101]) (.bi .len [.fld [68, 111, 105, 110, 103] (.var 0) [95, 119, 111, 114, 100, 115]])) [.asg (.nm 1) (.meth [68, 111, 105, 110, 103] 29 [95, 119, 111, 114, 100] (.var 0) [.ix (.fld [68, 111, 105, 110, 103] (.var 0) [95, 119, 111, 114, 100, 115]) (.fld [68, 111, 105, 110, 103] (.var 0) [95, 112, 108, 97, 99, 101])]), .ifs (.cmp .notN (.var 1) (.lit .non)) [.ret (.var 1)] []],
  .ret (.tup [.lit (.str [100, 111, 110, 101]), .tup [.lit (.str [109, 97, 100, 101]), .ix (.fld [68, 111, 105, 110, 103] (.var 0) [95, 112, 105, 108, 101]) (.neg (.lit (.int 1)))], .bi .tuple [.fld [68, 111, 105, 110, 103] (.var 0) [95, 110, 101, 101, 100, 115]]])]
def f_Doing_go_on : Fn := ⟨1, 2, false, b_Doing_go_on, true⟩
def fns : List Fn := [f_is_whole, f__are_letters, f_is_name, f_is_content, f_parts_of, f__is_deed, f__count, f_is_deed, f__words, f_words_of, f__depths, f_half_fault, f_begun, f_gone_on, f__law_draws, f__law_deed, f__law_words, f__law_depths, f__law_is_text, f__law_due, f__law_error, f_law, f_Doing___init__, f_Doing__half, f_Doing__asked, f_Doing__named, f_Doing__joined, f_Doing__same, f_Doing__changed, f_Doing__word, f_Doing_go_on]
--- text
def d_is_whole : Def := ⟨"is_whole", topS 12, ["value", "least", "most"], f_is_whole, "is_whole", true⟩
def d__are_letters : Def := ⟨"_are_letters", topS 13, ["value", "least", "most", "sign"], f__are_letters, "_are_letters", true⟩
def d_is_name : Def := ⟨"is_name", topS 14, ["value"], f_is_name, "is_name", true⟩
def d_is_content : Def := ⟨"is_content", topS 15, ["value"], f_is_content, "is_content", true⟩
def d_parts_of : Def := ⟨"parts_of", topS 16, ["deed"], f_parts_of, "parts_of", true⟩
def d__is_deed : Def := ⟨"_is_deed", topS 17, ["value", "deep", "one"], f__is_deed, "_is_deed", true⟩
def d__count : Def := ⟨"_count", topS 18, ["deed", "one"], f__count, "_count", true⟩
def d_is_deed : Def := ⟨"is_deed", topS 19, ["value"], f_is_deed, "is_deed", true⟩
def d__words : Def := ⟨"_words", topS 25, ["deed", "kind", "over", "first", "second", "third", "fourth", "one"], f__words, "_words", true⟩
def d_words_of : Def := ⟨"words_of", topS 26, ["deed"], f_words_of, "words_of", true⟩
def d__depths : Def := ⟨"_depths", topS 27, ["words", "depths", "place", "word", "later"], f__depths, "_depths", true⟩
def d_half_fault : Def := ⟨"half_fault", topS 28, ["value", "words", "many", "_deed", "place", "pile", "needs", "one"], f_half_fault, "half_fault", true⟩
def d_begun : Def := ⟨"begun", topS 29, ["deed"], f_begun, "begun", true⟩
def d_gone_on : Def := ⟨"gone_on", topS 31, ["half", "known"], f_gone_on, "gone_on", true⟩
def d__law_draws : Def := ⟨"_law_draws", topS 33, ["script", "many", "draws", "seed", "cell", "k", "number"], f__law_draws, "_law_draws", true⟩
def d__law_deed : Def := ⟨"_law_deed", topS 34, ["draws", "at", "names", "deep", "draw", "kind", "first", "second", "third"], f__law_deed, "_law_deed", true⟩
def d__law_words : Def := ⟨"_law_words", topS 35, ["deed", "inner", "one", "kind", "found"], f__law_words, "_law_words", true⟩
def d__law_depths : Def := ⟨"_law_depths", topS 36, ["words", "found", "waits", "place", "deep", "word"], f__law_depths, "_law_depths", true⟩
def d__law_is_text : Def := ⟨"_law_is_text", topS 37, ["value", "least", "most", "sign"], f__law_is_text, "_law_is_text", true⟩
def d__law_due : Def := ⟨"_law_due", topS 38, ["value", "depths", "one"], f__law_due, "_law_due", true⟩
def d__law_error : Def := ⟨"_law_error", topS 39, ["way", "value", "e"], f__law_error, "_law_error", true⟩
def d_law : Def := ⟨"law", topS 40, ["script", "draws", "turn", "same", "deed", "words", "depths", "place", "base", "values", "value", "wrong", "many", "pile", "due"], f_law, "law", true⟩
def d_Doing___init__ : Def := ⟨"__init__", metS 30 0, ["self", "half", "known", "pile", "needs"], f_Doing___init__, "Doing.__init__", false⟩
def d_Doing__half : Def := ⟨"_half", metS 30 1, ["self"], f_Doing__half, "Doing._half", false⟩
def d_Doing__asked : Def := ⟨"_asked", metS 30 2, ["self", "name", "taken", "result"], f_Doing__asked, "Doing._asked", false⟩
def d_Doing__named : Def := ⟨"_named", metS 30 3, ["self", "name"], f_Doing__named, "Doing._named", false⟩
def d_Doing__joined : Def := ⟨"_joined", metS 30 4, ["self", "upper", "lower"], f_Doing__joined, "Doing._joined", false⟩
def d_Doing__same : Def := ⟨"_same", metS 30 5, ["self", "places", "upper", "lower"], f_Doing__same, "Doing._same", false⟩
def d_Doing__changed : Def := ⟨"_changed", metS 30 6, ["self", "word", "content", "sign"], f_Doing__changed, "Doing._changed", false⟩
def d_Doing__word : Def := ⟨"_word", metS 30 7, ["self", "word"], f_Doing__word, "Doing._word", false⟩
def d_Doing_go_on : Def := ⟨"go_on", metS 30 8, ["self", "end"], f_Doing_go_on, "Doing.go_on", false⟩
def T : Tab := ⟨[("is_whole", 3), ("_are_letters", 3), ("is_name", 1), ("is_content", 1), ("parts_of", 1), ("_is_deed", 2), ("_count", 1), ("is_deed", 1), ("_words", 1), ("words_of", 1), ("_depths", 1), ("half_fault", 1), ("begun", 1), ("gone_on", 2), ("_law_draws", 2), ("_law_deed", 4), ("_law_words", 1), ("_law_depths", 1), ("_law_is_text", 3), ("_law_due", 1), ("_law_error", 2), ("law", 1), ("", 3), ("", 1), ("", 3), ("", 1), ("", 1), ("", 2), ("", 2), ("", 2), ("", 1)],
  [("LETTERS", vLETTERS), ("MOST_NAME", vMOST_NAME), ("MOST_CONTENT_rules", vMOST_CONTENT_rules), ("MOST_DEEP", vMOST_DEEP), ("MOST_DEEDS", vMOST_DEEDS), ("FORM", vFORM), ("MOST_CONTENT_halves", vMOST_CONTENT_halves), ("LONG", vLONG)],
  [("BadDeed", none), ("BadHalf", none), ("MakeError", none)],
  ["isinstance", "int", "bool", "str", "len", "all", "tuple", "sum", "enumerate", "abs", "range", "set", "sorted", "list", "max"],
  [[0], [1], [0, 1, 2]],
  [("PARTS", vPARTS), ("PLAIN", vPLAIN), ("LAYS", vLAYS)],
  [[68, 111, 105, 110, 103]],
  [([68, 111, 105, 110, 103], [95, 95, 105, 110, 105, 116, 95, 95], 22), ([68, 111, 105, 110, 103], [95, 104, 97, 108, 102], 23), ([68, 111, 105, 110, 103], [95, 97, 115, 107, 101, 100], 24), ([68, 111, 105, 110, 103], [95, 110, 97, 109, 101, 100], 25), ([68, 111, 105, 110, 103], [95, 106, 111, 105, 110, 101, 100], 26), ([68, 111, 105, 110, 103], [95, 115, 97, 109, 101], 27), ([68, 111, 105, 110, 103], [95, 99, 104, 97, 110, 103, 101, 100], 28), ([68, 111, 105, 110, 103], [95, 119, 111, 114, 100], 29), ([68, 111, 105, 110, 103], [103, 111, 95, 111, 110], 30)],
  [([68, 111, 105, 110, 103], [95, 100, 101, 101, 100]), ([68, 111, 105, 110, 103], [95, 112, 108, 97, 99, 101]), ([68, 111, 105, 110, 103], [95, 119, 111, 114, 100, 115]), ([68, 111, 105, 110, 103], [95, 112, 105, 108, 101]), ([68, 111, 105, 110, 103], [95, 110, 101, 101, 100, 115]), ([68, 111, 105, 110, 103], [95, 107, 110, 111, 119, 110])]⟩
def defs : List Def := [d_is_whole, d__are_letters, d_is_name, d_is_content, d_parts_of, d__is_deed, d__count, d_is_deed, d__words, d_words_of, d__depths, d_half_fault, d_begun, d_gone_on, d__law_draws, d__law_deed, d__law_words, d__law_depths, d__law_is_text, d__law_due, d__law_error, d_law, d_Doing___init__, d_Doing__half, d_Doing__asked, d_Doing__named, d_Doing__joined, d_Doing__same, d_Doing__changed, d_Doing__word, d_Doing_go_on]
theorem ok_is_whole : DefOk T d_is_whole := ⟨⟨rfl, rfl, rfl, by decide +kernel, rfl, by decide +kernel, by decide +kernel⟩, by decide +kernel, rfl, fun _ _ _ _ _ _ us hl => match us, hl with | [_, _, _], _ => rfl, by decide +kernel⟩
theorem ok__are_letters : DefOk T d__are_letters := ⟨⟨rfl, rfl, rfl, by decide +kernel, rfl, by decide +kernel, by decide +kernel⟩, by decide +kernel, rfl, fun _ _ _ _ _ _ us hl => match us, hl with | [_, _, _], _ => rfl, by decide +kernel⟩
theorem ok_is_name : DefOk T d_is_name := ⟨⟨rfl, rfl, rfl, by decide +kernel, rfl, by decide +kernel, by decide +kernel⟩, by decide +kernel, rfl, fun _ _ _ _ _ _ us hl => match us, hl with | [_], _ => rfl, by decide +kernel⟩
theorem ok_is_content : DefOk T d_is_content := ⟨⟨rfl, rfl, rfl, by decide +kernel, rfl, by decide +kernel, by decide +kernel⟩, by decide +kernel, rfl, fun _ _ _ _ _ _ us hl => match us, hl with | [_], _ => rfl, by decide +kernel⟩
theorem ok_parts_of : DefOk T d_parts_of := ⟨⟨rfl, rfl, rfl, by decide +kernel, rfl, by decide +kernel, by decide +kernel⟩, by decide +kernel, rfl, fun _ _ _ _ _ _ us hl => match us, hl with | [_], _ => rfl, by decide +kernel⟩
theorem ok__is_deed : DefOk T d__is_deed := ⟨⟨rfl, rfl, rfl, by decide +kernel, rfl, by decide +kernel, by decide +kernel⟩, by decide +kernel, rfl, fun _ _ _ _ _ _ us hl => match us, hl with | [_, _], _ => rfl, by decide +kernel⟩
theorem ok__count : DefOk T d__count := ⟨⟨rfl, rfl, rfl, by decide +kernel, rfl, by decide +kernel, by decide +kernel⟩, by decide +kernel, rfl, fun _ _ _ _ _ _ us hl => match us, hl with | [_], _ => rfl, by decide +kernel⟩
theorem ok_is_deed : DefOk T d_is_deed := ⟨⟨rfl, rfl, rfl, by decide +kernel, rfl, by decide +kernel, by decide +kernel⟩, by decide +kernel, rfl, fun _ _ _ _ _ _ us hl => match us, hl with | [_], _ => rfl, by decide +kernel⟩
theorem ok__words : DefOk T d__words := ⟨⟨rfl, rfl, rfl, by decide +kernel, rfl, by decide +kernel, by decide +kernel⟩, by decide +kernel, rfl, fun _ _ _ _ _ _ us hl => match us, hl with | [_], _ => rfl, by decide +kernel⟩
theorem ok_words_of : DefOk T d_words_of := ⟨⟨rfl, rfl, rfl, by decide +kernel, rfl, by decide +kernel, by decide +kernel⟩, by decide +kernel, rfl, fun _ _ _ _ _ _ us hl => match us, hl with | [_], _ => rfl, by decide +kernel⟩
theorem ok__depths : DefOk T d__depths := ⟨⟨rfl, rfl, rfl, by decide +kernel, rfl, by decide +kernel, by decide +kernel⟩, by decide +kernel, rfl, fun _ _ _ _ _ _ us hl => match us, hl with | [_], _ => rfl, by decide +kernel⟩
theorem ok_half_fault : DefOk T d_half_fault := ⟨⟨rfl, rfl, rfl, by decide +kernel, rfl, by decide +kernel, by decide +kernel⟩, by decide +kernel, rfl, fun _ _ _ _ _ _ us hl => match us, hl with | [_], _ => rfl, by decide +kernel⟩
theorem ok_begun : DefOk T d_begun := ⟨⟨rfl, rfl, rfl, by decide +kernel, rfl, by decide +kernel, by decide +kernel⟩, by decide +kernel, rfl, fun _ _ _ _ _ _ us hl => match us, hl with | [_], _ => rfl, by decide +kernel⟩
theorem ok_gone_on : DefOk T d_gone_on := ⟨⟨rfl, rfl, rfl, by decide +kernel, rfl, by decide +kernel, by decide +kernel⟩, by decide +kernel, rfl, fun _ _ _ _ _ _ us hl => match us, hl with | [_, _], _ => rfl, by decide +kernel⟩
theorem ok__law_draws : DefOk T d__law_draws := ⟨⟨rfl, rfl, rfl, by decide +kernel, rfl, by decide +kernel, by decide +kernel⟩, by decide +kernel, rfl, fun _ _ _ _ _ _ us hl => match us, hl with | [_, _], _ => rfl, by decide +kernel⟩
theorem ok__law_deed : DefOk T d__law_deed := ⟨⟨rfl, rfl, rfl, by decide +kernel, rfl, by decide +kernel, by decide +kernel⟩, by decide +kernel, rfl, fun _ _ _ _ _ _ us hl => match us, hl with | [_, _, _, _], _ => rfl, by decide +kernel⟩
theorem ok__law_words : DefOk T d__law_words := ⟨⟨rfl, rfl, rfl, by decide +kernel, rfl, by decide +kernel, by decide +kernel⟩, by decide +kernel, rfl, fun _ _ _ _ _ _ us hl => match us, hl with | [_], _ => rfl, by decide +kernel⟩
theorem ok__law_depths : DefOk T d__law_depths := ⟨⟨rfl, rfl, rfl, by decide +kernel, rfl, by decide +kernel, by decide +kernel⟩, by decide +kernel, rfl, fun _ _ _ _ _ _ us hl => match us, hl with | [_], _ => rfl, by decide +kernel⟩
theorem ok__law_is_text : DefOk T d__law_is_text := ⟨⟨rfl, rfl, rfl, by decide +kernel, rfl, by decide +kernel, by decide +kernel⟩, by decide +kernel, rfl, fun _ _ _ _ _ _ us hl => match us, hl with | [_, _, _], _ => rfl, by decide +kernel⟩
theorem ok__law_due : DefOk T d__law_due := ⟨⟨rfl, rfl, rfl, by decide +kernel, rfl, by decide +kernel, by decide +kernel⟩, by decide +kernel, rfl, fun _ _ _ _ _ _ us hl => match us, hl with | [_], _ => rfl, by decide +kernel⟩
theorem ok__law_error : DefOk T d__law_error := ⟨⟨rfl, rfl, rfl, by decide +kernel, rfl, by decide +kernel, by decide +kernel⟩, by decide +kernel, rfl, fun _ _ _ _ _ _ us hl => match us, hl with | [_, _], _ => rfl, by decide +kernel⟩
theorem ok_law : DefOk T d_law := ⟨⟨rfl, rfl, rfl, by decide +kernel, rfl, by decide +kernel, by decide +kernel⟩, by decide +kernel, rfl, fun _ _ _ _ _ _ us hl => match us, hl with | [_], _ => rfl, by decide +kernel⟩
theorem ok_Doing___init__ : DefOk T d_Doing___init__ := ⟨⟨rfl, rfl, rfl, by decide +kernel, rfl, by decide +kernel, by decide +kernel⟩, by decide +kernel, rfl, fun _ _ _ _ _ _ us hl => match us, hl with | [_, _, _], _ => rfl, by decide +kernel⟩
theorem ok_Doing__half : DefOk T d_Doing__half := ⟨⟨rfl, rfl, rfl, by decide +kernel, rfl, by decide +kernel, by decide +kernel⟩, by decide +kernel, rfl, fun _ _ _ _ _ _ us hl => match us, hl with | [_], _ => rfl, by decide +kernel⟩
theorem ok_Doing__asked : DefOk T d_Doing__asked := ⟨⟨rfl, rfl, rfl, by decide +kernel, rfl, by decide +kernel, by decide +kernel⟩, by decide +kernel, rfl, fun _ _ _ _ _ _ us hl => match us, hl with | [_, _, _], _ => rfl, by decide +kernel⟩
theorem ok_Doing__named : DefOk T d_Doing__named := ⟨⟨rfl, rfl, rfl, by decide +kernel, rfl, by decide +kernel, by decide +kernel⟩, by decide +kernel, rfl, fun _ _ _ _ _ _ us hl => match us, hl with | [_], _ => rfl, by decide +kernel⟩
theorem ok_Doing__joined : DefOk T d_Doing__joined := ⟨⟨rfl, rfl, rfl, by decide +kernel, rfl, by decide +kernel, by decide +kernel⟩, by decide +kernel, rfl, fun _ _ _ _ _ _ us hl => match us, hl with | [_], _ => rfl, by decide +kernel⟩
theorem ok_Doing__same : DefOk T d_Doing__same := ⟨⟨rfl, rfl, rfl, by decide +kernel, rfl, by decide +kernel, by decide +kernel⟩, by decide +kernel, rfl, fun _ _ _ _ _ _ us hl => match us, hl with | [_, _], _ => rfl, by decide +kernel⟩
theorem ok_Doing__changed : DefOk T d_Doing__changed := ⟨⟨rfl, rfl, rfl, by decide +kernel, rfl, by decide +kernel, by decide +kernel⟩, by decide +kernel, rfl, fun _ _ _ _ _ _ us hl => match us, hl with | [_, _], _ => rfl, by decide +kernel⟩
theorem ok_Doing__word : DefOk T d_Doing__word := ⟨⟨rfl, rfl, rfl, by decide +kernel, rfl, by decide +kernel, by decide +kernel⟩, by decide +kernel, rfl, fun _ _ _ _ _ _ us hl => match us, hl with | [_, _], _ => rfl, by decide +kernel⟩
theorem ok_Doing_go_on : DefOk T d_Doing_go_on := ⟨⟨rfl, rfl, rfl, by decide +kernel, rfl, by decide +kernel, by decide +kernel⟩, by decide +kernel, rfl, fun _ _ _ _ _ _ us hl => match us, hl with | [_], _ => rfl, by decide +kernel⟩
theorem tabs : T.fns = defs.map fun d => (d.gx, d.F.np) := by decide +kernel
theorem top {P : Program} {w : World} {K : PySem.W.Frag} {mg : Str → Option Value} {h : Heap} {fa : Addr} (fuel n : Nat) (X : K.In h) (G : h.Ns mainGlobals mg) (hfa : mg "law" = some (.ref fa))
    (d0 : DIn K "is_whole" (topS 12)) (d1 : DIn K "_are_letters" (topS 13)) (d2 : DIn K "is_name" (topS 14)) (d3 : DIn K "is_content" (topS 15)) (d4 : DIn K "parts_of" (topS 16)) (d5 : DIn K "_is_deed" (topS 17)) (d6 : DIn K "_count" (topS 18)) (d7 : DIn K "is_deed" (topS 19)) (d8 : DIn K "_words" (topS 25)) (d9 : DIn K "words_of" (topS 26)) (d10 : DIn K "_depths" (topS 27)) (d11 : DIn K "half_fault" (topS 28)) (d12 : DIn K "begun" (topS 29)) (d13 : DIn K "gone_on" (topS 31)) (d14 : DIn K "_law_draws" (topS 33)) (d15 : DIn K "_law_deed" (topS 34)) (d16 : DIn K "_law_words" (topS 35)) (d17 : DIn K "_law_depths" (topS 36)) (d18 : DIn K "_law_is_text" (topS 37)) (d19 : DIn K "_law_due" (topS 38)) (d20 : DIn K "_law_error" (topS 39)) (d21 : DIn K "law" (topS 40)) (d22 : MtIn K [68, 111, 105, 110, 103] "__init__" "Doing.__init__" (metS 30 0)) (d23 : MtIn K [68, 111, 105, 110, 103] "_half" "Doing._half" (metS 30 1)) (d24 : MtIn K [68, 111, 105, 110, 103] "_asked" "Doing._asked" (metS 30 2)) (d25 : MtIn K [68, 111, 105, 110, 103] "_named" "Doing._named" (metS 30 3)) (d26 : MtIn K [68, 111, 105, 110, 103] "_joined" "Doing._joined" (metS 30 4)) (d27 : MtIn K [68, 111, 105, 110, 103] "_same" "Doing._same" (metS 30 5)) (d28 : MtIn K [68, 111, 105, 110, 103] "_changed" "Doing._changed" (metS 30 6)) (d29 : MtIn K [68, 111, 105, 110, 103] "_word" "Doing._word" (metS 30 7)) (d30 : MtIn K [68, 111, 105, 110, 103] "go_on" "Doing.go_on" (metS 30 8))
    (e0 : EIn K w "PARTS" vPARTS) (e1 : EIn K w "PLAIN" vPLAIN) (e2 : EIn K w "LAYS" vLAYS) (xg : allGB K T.gls = true) (xz : allZB K T.blt = true) (xa : allXB P K T.exs = true) (xm : allMB K T = true) (xc : allCB K T = true) :
    ∃ fd : FuncData, (∀ (s : Shared) (v : Value), BindsTo s fd ⟨[v], []⟩ [("script", v)]) ∧ ∀ base : Heap, K.In base → base.Ns mainGlobals mg → FnOk P w K mg base (L2.CX P w) (2 * n + 2) fa fd ["script"] (lawSp K T.exs 1 (callF fuel fns n 21)) :=
  law_fn (T := T) (defs := defs) X G tabs ⟨⟨ok_is_whole, dm_top rfl d0 rfl (by decide +kernel)⟩, ⟨ok__are_letters, dm_top rfl d1 rfl (by decide +kernel)⟩, ⟨ok_is_name, dm_top rfl d2 rfl (by decide +kernel)⟩, ⟨ok_is_content, dm_top rfl d3 rfl (by decide +kernel)⟩, ⟨ok_parts_of, dm_top rfl d4 rfl (by decide +kernel)⟩, ⟨ok__is_deed, dm_top rfl d5 rfl (by decide +kernel)⟩, ⟨ok__count, dm_top rfl d6 rfl (by decide +kernel)⟩, ⟨ok_is_deed, dm_top rfl d7 rfl (by decide +kernel)⟩, ⟨ok__words, dm_top rfl d8 rfl (by decide +kernel)⟩, ⟨ok_words_of, dm_top rfl d9 rfl (by decide +kernel)⟩, ⟨ok__depths, dm_top rfl d10 rfl (by decide +kernel)⟩, ⟨ok_half_fault, dm_top rfl d11 rfl (by decide +kernel)⟩, ⟨ok_begun, dm_top rfl d12 rfl (by decide +kernel)⟩, ⟨ok_gone_on, dm_top rfl d13 rfl (by decide +kernel)⟩, ⟨ok__law_draws, dm_top rfl d14 rfl (by decide +kernel)⟩, ⟨ok__law_deed, dm_top rfl d15 rfl (by decide +kernel)⟩, ⟨ok__law_words, dm_top rfl d16 rfl (by decide +kernel)⟩, ⟨ok__law_depths, dm_top rfl d17 rfl (by decide +kernel)⟩, ⟨ok__law_is_text, dm_top rfl d18 rfl (by decide +kernel)⟩, ⟨ok__law_due, dm_top rfl d19 rfl (by decide +kernel)⟩, ⟨ok__law_error, dm_top rfl d20 rfl (by decide +kernel)⟩, ⟨ok_law, dm_top rfl d21 rfl (by decide +kernel)⟩, ⟨ok_Doing___init__, dm_met (c := [68, 111, 105, 110, 103]) (n := [95, 95, 105, 110, 105, 116, 95, 95]) rfl (by decide +kernel) d22 (by decide +kernel)⟩, ⟨ok_Doing__half, dm_met (c := [68, 111, 105, 110, 103]) (n := [95, 104, 97, 108, 102]) rfl (by decide +kernel) d23 (by decide +kernel)⟩, ⟨ok_Doing__asked, dm_met (c := [68, 111, 105, 110, 103]) (n := [95, 97, 115, 107, 101, 100]) rfl (by decide +kernel) d24 (by decide +kernel)⟩, ⟨ok_Doing__named, dm_met (c := [68, 111, 105, 110, 103]) (n := [95, 110, 97, 109, 101, 100]) rfl (by decide +kernel) d25 (by decide +kernel)⟩, ⟨ok_Doing__joined, dm_met (c := [68, 111, 105, 110, 103]) (n := [95, 106, 111, 105, 110, 101, 100]) rfl (by decide +kernel) d26 (by decide +kernel)⟩, ⟨ok_Doing__same, dm_met (c := [68, 111, 105, 110, 103]) (n := [95, 115, 97, 109, 101]) rfl (by decide +kernel) d27 (by decide +kernel)⟩, ⟨ok_Doing__changed, dm_met (c := [68, 111, 105, 110, 103]) (n := [95, 99, 104, 97, 110, 103, 101, 100]) rfl (by decide +kernel) d28 (by decide +kernel)⟩, ⟨ok_Doing__word, dm_met (c := [68, 111, 105, 110, 103]) (n := [95, 119, 111, 114, 100]) rfl (by decide +kernel) d29 (by decide +kernel)⟩, ⟨ok_Doing_go_on, dm_met (c := [68, 111, 105, 110, 103]) (n := [103, 111, 95, 111, 110]) rfl (by decide +kernel) d30 (by decide +kernel)⟩, trivial⟩ (allG_of xg) (allZ_of xz) (allX_of xa) (allM_of xm) (allC_of xc) ⟨e0, e1, e2, trivial⟩ fuel n 21 d_law rfl rfl rfl hfa rfl rfl
end K12

set_option linter.all false
set_option autoImplicit false
set_option maxRecDepth 100000
set_option maxHeartbeats 4000000
namespace K12
open MK MK.A
def fuel : Nat := 1000
def depth : Nat := 18
def o (n : Nat) : Orc := ⟨fun g ws S' => callF fuel fns n g ws S', fuel⟩
theorem o_call (n g : Nat) (ws : List PV) (S : Store) : (o n).call g ws S = callF fuel fns n g ws S := rfl
/-! ### what is plain stays as it is -/
mutual
theorem frz_plain (S : Store) (n0 : Nat) : ∀ (d : Nat) (v : PV), v.plain d = true → frz S n0 d v = some v
  | d, .non, _ => by cases d <;> rfl
  | d, .bl _, _ => by cases d <;> rfl
  | d, .int _, _ => by cases d <;> rfl
  | d, .str _, _ => by cases d <;> rfl
  | 0, .tup xs, h => by simp [PV.plain] at h
  | 0, .lst xs, h => by simp [PV.plain] at h
  | d + 1, .tup xs, h => by
    show (frzL (frz S n0 d) xs).map PV.tup = _
    rw [frzL_plain S n0 d xs (by simpa [PV.plain] using h)]; rfl
  | d + 1, .lst xs, h => by
    show (frzL (frz S n0 d) xs).map PV.lst = _
    rw [frzL_plain S n0 d xs (by simpa [PV.plain] using h)]; rfl
  | d, .ref _, h => by cases d <;> simp [PV.plain] at h
  | d, .ty _, h => by cases d <;> simp [PV.plain] at h
theorem frzL_plain (S : Store) (n0 : Nat) : ∀ (d : Nat) (xs : List PV), PV.plainAll d xs = true → frzL (frz S n0 d) xs = some xs
  | d, [], _ => rfl
  | d, x :: xs, h => by
    unfold PV.plainAll at h
    rw [Bool.and_eq_true] at h
    show (match frz S n0 d x, frzL (frz S n0 d) xs with | some y, some ys => some (y :: ys) | _, _ => none) = _
    rw [frz_plain S n0 d x h.1, frzL_plain S n0 d xs h.2]
end
/-- it may be told from one depth that it is plain at a greater one -/
theorem plain_mono {d e : Nat} (hde : d ≤ e) : (∀ v : PV, v.plain d = true → v.plain e = true) ∧ ∀ vs : List PV, PV.plainAll d vs = true → PV.plainAll e vs = true := by
  induction d generalizing e with
  | zero =>
    have h1 : ∀ v : PV, v.plain 0 = true → v.plain e = true := fun v h => by
      cases v <;> first | (cases e <;> rfl) | simp [PV.plain] at h
    refine ⟨h1, fun vs => ?_⟩
    induction vs with
    | nil => intro _; unfold PV.plainAll; rfl
    | cons v vs ih =>
      intro h
      unfold PV.plainAll at h ⊢
      rw [Bool.and_eq_true] at h ⊢
      exact ⟨h1 v h.1, ih h.2⟩
  | succ d ih =>
    obtain ⟨e, rfl⟩ : ∃ k, e = k + 1 := ⟨e - 1, by omega⟩
    have h1 : ∀ v : PV, v.plain (d + 1) = true → v.plain (e + 1) = true := fun v h => by
      cases v with
      | tup xs => simp only [PV.plain] at h ⊢; exact (ih (by omega)).2 xs h
      | lst xs => simp only [PV.plain] at h ⊢; exact (ih (by omega)).2 xs h
      | non => rfl
      | bl b => rfl
      | int b => rfl
      | str b => rfl
      | ref b => simp [PV.plain] at h
      | ty b => simp [PV.plain] at h
    refine ⟨h1, fun vs => ?_⟩
    induction vs with
    | nil => intro _; unfold PV.plainAll; rfl
    | cons v vs ih2 =>
      intro h
      unfold PV.plainAll at h ⊢
      rw [Bool.and_eq_true] at h ⊢
      exact ⟨h1 v h.1, ih2 h.2⟩
theorem fin_pl {S X : Store} {v : PV} (h : v.plain 60 = true) : fin true S (.ret v (S ++ X)) = .ok v S := by
  show close true S v (S ++ X) = _
  unfold close
  rw [if_pos rfl, frz_plain _ _ 60 v h]
  show (if (S ++ X).take S.length = S then Out.ok v S else .bad) = _
  rw [List.take_left, if_pos rfl]
theorem fin_p {S : Store} {v : PV} (h : v.plain 60 = true) : fin true S (.ret v S) = .ok v S := by
  have := fin_pl (S := S) (X := []) h
  rwa [List.append_nil] at this
theorem call_tr {n f : Nat} {vs : List PV} {S X : Store} {F : Fn} {v : PV} (hF : fns[f]? = some F) (hl : vs.length = F.np) (ht : F.trunc = true) (hg : F.gc = false) (h : evSs (o n) F.body (start F.nl vs) S = .ret v (S ++ X)) (hv : v.plain 60 = true) : callF fuel fns (n + 1) f vs S = .ok v S := by
  have e : callF fuel fns (n + 1) f vs S = (match fns[f]? with
    | some F => if vs.length = F.np then cond F.gc (finG S (evSs (o n) F.body (start F.nl vs) S)) (fin F.trunc S (evSs (o n) F.body (start F.nl vs) S)) else .bad
    | none => .bad) := rfl
  rw [e, hF]
  show (if vs.length = F.np then cond F.gc _ (fin F.trunc S (evSs (o n) F.body (start F.nl vs) S)) else Out.bad) = _
  rw [if_pos hl, hg, ht, h]
  exact fin_pl hv
theorem call_t {n f : Nat} {vs : List PV} {S : Store} {F : Fn} {v : PV} (hF : fns[f]? = some F) (hl : vs.length = F.np) (ht : F.trunc = true) (hg : F.gc = false) (h : evSs (o n) F.body (start F.nl vs) S = .ret v S) (hv : v.plain 60 = true) : callF fuel fns (n + 1) f vs S = .ok v S :=
  call_tr (X := []) hF hl ht hg (by rw [List.append_nil]; exact h) hv
/-! ### letters -/
def AZ : List Nat := [97, 98, 99, 100, 101, 102, 103, 104, 105, 106, 107, 108, 109, 110, 111, 112, 113, 114, 115, 116, 117, 118, 119, 120, 121, 122]
def letB (s : List Nat) : Bool := s.all fun c => decide (c ∈ AZ)
theorem let_it {n : Nat} {ρ : Env} {S : Store} {g : C} {s : List Nat} {i : Nat} (hi : i < ρ.length) (hg : ∀ ρ, evE (o n) g ρ S = .ok (.str AZ) S) : ∀ c ∈ s, evE (o n) (.cmp .mem (.var i) g) (ρ.set i (some (.str [c]))) S = .ok (.bl (decide (c ∈ AZ))) S := fun c _ =>
  gcmp (gvar (by rw [List.getElem?_set_self hi])) (hg _) rfl
/-- all([sign in LETTERS for sign in value]) -/
theorem all_let {n : Nat} {ρ : Env} {S : Store} {a i : Nat} {g : C} {s : List Nat} (ha : ρ[a]? = some (some (.str s))) (hs : s.length ≤ SZ) (hi : i < ρ.length) (hg : ∀ ρ, evE (o n) g ρ S = .ok (.str AZ) S) : evE (o n) (.bi .all [.lc false [i] (.nm i) (.seq (.var a)) [] (.cmp .mem (.var i) g)]) ρ S = .ok (.bl (letB s)) S :=
  gall (fun c => .str [c]) (fun c => decide (c ∈ AZ)) (it_seq (gvar ha) (wk_str s)) hs hi (let_it hi hg)
/-- so many letters -/
def lets (lo hi : Nat) : PV → Bool
  | .str s => decide (lo ≤ s.length) && decide (s.length ≤ hi) && letB s
  | _ => false
/-- what may be asked -/
def scal : PV → Bool
  | .non => true
  | .bl _ => true
  | .int _ => true
  | .str s => decide (s.length ≤ SZ)
  | _ => false
theorem and3 {n : Nat} {ρ : Env} {S : Store} {a b c : C} {x y z : Bool} (ha : evE (o n) a ρ S = .ok (.bl x) S) (hb : x = true → evE (o n) b ρ S = .ok (.bl y) S) (hc : x = true → y = true → evE (o n) c ρ S = .ok (.bl z) S) : evE (o n) (.and [a, b, c]) ρ S = .ok (.bl (x && y && z)) S := by
  cases x with
  | false => exact gand_f ha rfl
  | true =>
    refine gand_t ha rfl ?_
    rw [Bool.true_and]
    exact gand2 (hb rfl) fun e => hc rfl e
/-- _are_letters, _law_is_text -/
theorem letters_body {n : Nat} {S : Store} {v : PV} {lo hi : Nat} {g : C} (hv : scal v = true) (hg : ∀ ρ, evE (o n) g ρ S = .ok (.str AZ) S) : evSs (o n) [.ret (.and [.isi (.var 0) .str, .cmp2 .le .le (.var 1) (.bi .len [.var 0]) (.var 2), .bi .all [.lc false [3] (.nm 3) (.seq (.var 0)) [] (.cmp .mem (.var 3) g)]])] [some v, some (.int (lo : Int)), some (.int (hi : Int)), none] S = .ret (.bl (lets lo hi v)) S := by
  refine sret ?_
  cases v with
  | str s =>
    have h2 : (decide ((lo : Int) ≤ ((s.length : Nat) : Int)) && decide (((s.length : Nat) : Int) ≤ (hi : Int))) = (decide (lo ≤ s.length) && decide (s.length ≤ hi)) := by
      rw [decide_eq_decide.mpr Int.ofNat_le, decide_eq_decide.mpr Int.ofNat_le]
    have := and3 (S := S) (ρ := [some (.str s), some (.int (lo : Int)), some (.int (hi : Int)), none]) (a := .isi (.var 0) .str) (x := true) (gisi (gvar rfl) rfl) (fun _ => gcmp2 (p := .le) (q := .le) (b := .bi .len [.var 0]) (y := .int s.length) (gvar (i := 1) rfl) (gbi (gcons (gvar rfl) gnil) rfl) rfl (gvar (i := 2) rfl) rfl) (fun _ _ => all_let (a := 0) (i := 3) (s := s) rfl (of_decide_eq_true hv) (by show 3 < 4; decide) hg)
    rw [Bool.true_and, h2] at this
    exact this
  | non => exact gand_f (gisi (gvar rfl) rfl) rfl
  | bl b => exact gand_f (gisi (gvar rfl) rfl) rfl
  | int b => exact gand_f (gisi (gvar rfl) rfl) rfl
  | _ => cases hv
theorem are_ok (n : Nat) (S : Store) {v : PV} (lo hi : Nat) (hv : scal v = true) : callF fuel fns (n + 1) 1 [v, .int (lo : Int), .int (hi : Int)] S = .ok (.bl (lets lo hi v)) S :=
  call_t (F := f__are_letters) rfl rfl rfl rfl (letters_body hv fun ρ => ggl _) rfl
theorem law_text_ok (n : Nat) (S : Store) {v : PV} (lo hi : Nat) (hv : scal v = true) : callF fuel fns (n + 1) 18 [v, .int (lo : Int), .int (hi : Int)] S = .ok (.bl (lets lo hi v)) S :=
  call_t (F := f__law_is_text) rfl rfl rfl rfl (letters_body hv fun ρ => glit _) rfl
theorem name_ok (n : Nat) (S : Store) {v : PV} (hv : scal v = true) : callF fuel fns (n + 2) 2 [v] S = .ok (.bl (lets 1 8 v)) S :=
  call_t (F := f_is_name) rfl rfl rfl rfl (sret (gcall (gcons (gvar rfl) (gcons (glit _) (gcons (ggl _) gnil))) (are_ok n S 1 8 hv))) rfl
theorem cont_ok (n : Nat) (S : Store) {v : PV} (hv : scal v = true) : callF fuel fns (n + 2) 3 [v] S = .ok (.bl (lets 0 40 v)) S :=
  call_t (F := f_is_content) rfl rfl rfl rfl (sret (gcall (gcons (gvar rfl) (gcons (glit _) (gcons (ggl _) gnil))) (are_ok n S 0 40 hv))) rfl
theorem whole_ok (n : Nat) (S : Store) (i lo hi : Int) : callF fuel fns (n + 1) 0 [.int i, .int lo, .int hi] S = .ok (.bl (decide (lo ≤ i) && decide (i ≤ hi))) S := by
  refine call_t (F := f_is_whole) rfl rfl rfl rfl (sret ?_) rfl
  have := and3 (S := S) (n := n) (ρ := [some (.int i), some (.int lo), some (.int hi)]) (a := .isi (.var 0) .int) (b := .not (.isi (.var 0) .bool)) (x := true) (y := true) (gisi (gvar rfl) rfl) (fun _ => gnot (x := false) (gisi (gvar rfl) rfl)) (fun _ _ => gcmp2 (p := .le) (q := .le) (b := .var 0) (gvar (i := 1) rfl) (gvar rfl) rfl (gvar (i := 2) rfl) rfl)
  exact this
end K12

set_option linter.all false
set_option autoImplicit false
set_option maxRecDepth 100000
set_option maxHeartbeats 4000000
namespace K12
open MK MK.A
/-! ### deeds -/
inductive D where
  | text (s : List Nat) | need (s : List Nat) | join (a b : D) | named (a : D) | back (a : D) | sort (a : D) | head (k : Nat) (a : D) | swap (x y : Nat) (a : D) | same (a b c d : D)
abbrev kText : List Nat := [116, 101, 120, 116]
abbrev kNeed : List Nat := [110, 101, 101, 100]
abbrev kNamed : List Nat := [110, 97, 109, 101, 100]
abbrev kJoin : List Nat := [106, 111, 105, 110]
abbrev kHead : List Nat := [104, 101, 97, 100]
abbrev kBack : List Nat := [98, 97, 99, 107]
abbrev kSort : List Nat := [115, 111, 114, 116]
abbrev kSwap : List Nat := [115, 119, 97, 112]
abbrev kSame : List Nat := [115, 97, 109, 101]
abbrev kLeap : List Nat := [108, 101, 97, 112]
def D.enc : D → PV
  | .text s => .tup [.str kText, .str s]
  | .need s => .tup [.str kNeed, .str s]
  | .join a b => .tup [.str kJoin, a.enc, b.enc]
  | .named a => .tup [.str kNamed, a.enc]
  | .back a => .tup [.str kBack, a.enc]
  | .sort a => .tup [.str kSort, a.enc]
  | .head k a => .tup [.str kHead, .int (k : Int), a.enc]
  | .swap x y a => .tup [.str kSwap, .str [x], .str [y], a.enc]
  | .same a b c d => .tup [.str kSame, a.enc, b.enc, c.enc, d.enc]
def D.parts : D → List D
  | .text _ => []
  | .need _ => []
  | .join a b => [a, b]
  | .named a => [a]
  | .back a => [a]
  | .sort a => [a]
  | .head _ a => [a]
  | .swap _ _ a => [a]
  | .same a b c d => [a, b, c, d]
def D.dep : D → Nat
  | .text _ => 0
  | .need _ => 0
  | .join a b => max a.dep b.dep + 1
  | .named a => a.dep + 1
  | .back a => a.dep + 1
  | .sort a => a.dep + 1
  | .head _ a => a.dep + 1
  | .swap _ _ a => a.dep + 1
  | .same a b c d => max (max a.dep b.dep) (max c.dep d.dep) + 1
def D.cnt : D → Nat
  | .text _ => 1
  | .need _ => 1
  | .join a b => 1 + (a.cnt + b.cnt)
  | .named a => 1 + a.cnt
  | .back a => 1 + a.cnt
  | .sort a => 1 + a.cnt
  | .head _ a => 1 + a.cnt
  | .swap _ _ a => 1 + a.cnt
  | .same a b c d => 1 + (a.cnt + b.cnt + c.cnt + d.cnt)
def D.ok : D → Prop
  | .text s => letB s = true ∧ s.length ≤ 40
  | .need s => letB s = true ∧ 1 ≤ s.length ∧ s.length ≤ 8
  | .join a b => a.ok ∧ b.ok
  | .named a => a.ok
  | .back a => a.ok
  | .sort a => a.ok
  | .head k a => k ≤ 40 ∧ a.ok
  | .swap x y a => x ∈ AZ ∧ y ∈ AZ ∧ a.ok
  | .same a b c d => a.ok ∧ b.ok ∧ c.ok ∧ d.ok
theorem D.dep_part : ∀ (d p : D), p ∈ d.parts → p.dep + 1 ≤ d.dep := by
  intro d p h
  cases d <;> simp only [D.parts, List.mem_cons, List.not_mem_nil, or_false] at h <;> simp only [D.dep]
  all_goals first
    | (exact h.elim)
    | (subst h; omega)
    | (rcases h with rfl | rfl <;> omega)
    | (rcases h with rfl | rfl | rfl | rfl <;> omega)
theorem D.ok_part : ∀ (d p : D), p ∈ d.parts → d.ok → p.ok := by
  intro d p h q
  cases d <;> simp only [D.parts, List.mem_cons, List.not_mem_nil, or_false] at h <;> simp only [D.ok] at q
  all_goals first
    | (exact h.elim)
    | (subst h; first | exact q | exact q.2 | exact q.2.2)
    | (rcases h with rfl | rfl <;> first | exact q.1 | exact q.2)
    | (rcases h with rfl | rfl | rfl | rfl <;> first | exact q.1 | exact q.2.1 | exact q.2.2.1 | exact q.2.2.2)
theorem D.plain_enc : ∀ (d : D) (n : Nat), d.dep + 1 ≤ n → d.enc.plain n = true := by
  intro d
  induction d with
  | text s => intro n h; obtain ⟨n, rfl⟩ : ∃ k, n = k + 1 := ⟨n - 1, by omega⟩; simp [D.enc, PV.plain, PV.plainAll]
  | need s => intro n h; obtain ⟨n, rfl⟩ : ∃ k, n = k + 1 := ⟨n - 1, by omega⟩; simp [D.enc, PV.plain, PV.plainAll]
  | join a b ha hb => intro n h; obtain ⟨n, rfl⟩ : ∃ k, n = k + 1 := ⟨n - 1, by omega⟩; simp only [D.dep] at h; simp [D.enc, PV.plain, PV.plainAll, ha n (by omega), hb n (by omega)]
  | named a ha => intro n h; obtain ⟨n, rfl⟩ : ∃ k, n = k + 1 := ⟨n - 1, by omega⟩; simp only [D.dep] at h; simp [D.enc, PV.plain, PV.plainAll, ha n (by omega)]
  | back a ha => intro n h; obtain ⟨n, rfl⟩ : ∃ k, n = k + 1 := ⟨n - 1, by omega⟩; simp only [D.dep] at h; simp [D.enc, PV.plain, PV.plainAll, ha n (by omega)]
  | sort a ha => intro n h; obtain ⟨n, rfl⟩ : ∃ k, n = k + 1 := ⟨n - 1, by omega⟩; simp only [D.dep] at h; simp [D.enc, PV.plain, PV.plainAll, ha n (by omega)]
  | head k a ha => intro n h; obtain ⟨n, rfl⟩ : ∃ k, n = k + 1 := ⟨n - 1, by omega⟩; simp only [D.dep] at h; simp [D.enc, PV.plain, PV.plainAll, ha n (by omega)]
  | swap x y a ha => intro n h; obtain ⟨n, rfl⟩ : ∃ k, n = k + 1 := ⟨n - 1, by omega⟩; simp only [D.dep] at h; simp [D.enc, PV.plain, PV.plainAll, ha n (by omega)]
  | same a b c d ha hb hc hd => intro n h; obtain ⟨n, rfl⟩ : ∃ k, n = k + 1 := ⟨n - 1, by omega⟩; simp only [D.dep] at h; simp [D.enc, PV.plain, PV.plainAll, ha n (by omega), hb n (by omega), hc n (by omega), hd n (by omega)]
/-- the items of a deed -/
def D.tl : D → List PV
  | .text s => [.str s]
  | .need s => [.str s]
  | .join a b => [a.enc, b.enc]
  | .named a => [a.enc]
  | .back a => [a.enc]
  | .sort a => [a.enc]
  | .head k a => [.int (k : Int), a.enc]
  | .swap x y a => [.str [x], .str [y], a.enc]
  | .same a b c d => [a.enc, b.enc, c.enc, d.enc]
def D.kind : D → List Nat
  | .text _ => kText
  | .need _ => kNeed
  | .join _ _ => kJoin
  | .named _ => kNamed
  | .back _ => kBack
  | .sort _ => kSort
  | .head _ _ => kHead
  | .swap _ _ _ => kSwap
  | .same _ _ _ _ => kSame
theorem D.enc_eq (d : D) : d.enc = .tup (.str d.kind :: d.tl) := by cases d <;> rfl
theorem okp (d : D) (h : d.dep ≤ 50) : d.enc.plain 60 = true := d.plain_enc 60 (by omega)
/-! ### parts_of -/
theorem parts_ok (n : Nat) (S : Store) (d : D) (h : d.dep ≤ 50) : callF fuel fns (n + 1) 4 [d.enc] S = .ok (.tup (d.parts.map D.enc)) S := by
  have k0 : ∀ d : D, evE (o n) (.ix (.var 0) (.lit (.int 0))) [some d.enc] S = .ok (.str d.kind) S := fun d => gix (gvar rfl) (glit _) (by rw [d.enc_eq]; exact i_tup S _ 0 rfl)
  have hp : ∀ d : D, d.dep ≤ 50 → (PV.tup (d.parts.map D.enc)).plain 60 = true := fun d h => by
    have hq : ∀ l : List D, (∀ x ∈ l, x.dep ≤ 50) → PV.plainAll 59 (l.map D.enc) = true := by
      intro l
      induction l with
      | nil => intro _; simp [PV.plainAll]
      | cons x l ih =>
        intro hx
        rw [List.map_cons]
        unfold PV.plainAll
        rw [x.plain_enc 59 (by have := hx x (by simp); omega), ih fun y hy => hx y (by simp [hy])]
        rfl
    show PV.plainAll 59 (d.parts.map D.enc) = true
    exact hq _ fun x hx => by have := d.dep_part x hx; omega
  refine call_t (F := f_parts_of) rfl rfl rfl rfl (sret ?_) (hp d h)
  have hg := ggdin (neg := false) (d := vPARTS) (k0 d)
  cases d with
  | text s => exact gite_f hg rfl (gtup (vs := []) gnil (by decide))
  | need s => exact gite_f hg rfl (gtup (vs := []) gnil (by decide))
  | join a b => exact gite_t hg rfl (gslf (gvar rfl) (gbin (glit _) (ggdx (k0 (.join a b)) rfl) rfl) rfl)
  | named a => exact gite_t hg rfl (gslf (gvar rfl) (gbin (glit _) (ggdx (k0 (.named a)) rfl) rfl) rfl)
  | back a => exact gite_t hg rfl (gslf (gvar rfl) (gbin (glit _) (ggdx (k0 (.back a)) rfl) rfl) rfl)
  | sort a => exact gite_t hg rfl (gslf (gvar rfl) (gbin (glit _) (ggdx (k0 (.sort a)) rfl) rfl) rfl)
  | head k a => exact gite_t hg rfl (gslf (gvar rfl) (gbin (glit _) (ggdx (k0 (.head k a)) rfl) rfl) rfl)
  | swap x y a => exact gite_t hg rfl (gslf (gvar rfl) (gbin (glit _) (ggdx (k0 (.swap x y a)) rfl) rfl) rfl)
  | same a b c d => exact gite_t hg rfl (gslf (gvar rfl) (gbin (glit _) (ggdx (k0 (.same a b c d)) rfl) rfl) rfl)
/-! ### _is_deed -/
theorem k0 {n : Nat} {ρ : Env} {S : Store} {i : Nat} (d : D) (h : ρ[i]? = some (some d.enc)) : evE (o n) (.ix (.var i) (.lit (.int 0))) ρ S = .ok (.str d.kind) S := gix (gvar h) (glit _) (by rw [d.enc_eq]; exact i_tup S _ 0 rfl)
/-- the first statement lets a deed by -/
theorem D.parts_le (d : D) : d.parts.length ≤ 4 := by cases d <;> simp [D.parts]
theorem head_ok {n : Nat} {S : Store} {a : List MK.S} (d : D) (k : Int) (hk : (lookT d.kind vPLAIN).isSome = true) : evS (o n) (.ifs (.or [.not (.isi (.var 0) .tuple), .cmp .eq (.bi .len [.var 0]) (.lit (.int 0)), .not (.isi (.ix (.var 0) (.lit (.int 0))) .str), .gdin true vPLAIN (.ix (.var 0) (.lit (.int 0)))]) a []) [some d.enc, some (.int k), none] S = .next [some d.enc, some (.int k), none] S := by
  refine sif_f (x := false) ?_ rfl s0
  have hl : evBI S .len [d.enc] = some (.int ((d.tl.length + 1 : Nat) : Int)) := by rw [d.enc_eq]; rfl
  have ht : isTy S .tuple d.enc = some true := by rw [d.enc_eq]; rfl
  refine gor_f (x := !true) (gnot (gisi (gvar rfl) ht)) rfl ?_
  refine gor_f (x := (((d.tl.length + 1 : Nat) : Int) == 0)) (gcmp (gbi (gcons (gvar rfl) gnil) hl) (glit _) (c_eq_int _ _ _)) (beq_eq_false_iff_ne.mpr (by omega)) ?_
  refine gor_f (x := !true) (gnot (gisi (k0 d rfl) rfl)) rfl ?_
  have := ggdin (neg := true) (d := vPLAIN) (k0 (n := n) (ρ := [some d.enc, some (.int k), none]) (S := S) (i := 0) d rfl)
  rw [hk] at this
  exact gor1 this
theorem is_deed_ok : ∀ (m : Nat) (d : D) (k : Nat) (S : Store), d.ok → d.dep ≤ k → k ≤ 40 → d.dep + 3 ≤ m → callF fuel fns m 5 [d.enc, .int (k : Int)] S = .ok (.bl true) S := by
  intro m
  induction m with
  | zero => intro d k S _ _ _ h; omega
  | succ n ih =>
    intro d k S ok hk h40 hm
    have leaf : ∀ (d : D) (s : List Nat) (t : Bool), d.enc = .tup [.str d.kind, .str s] → (lookT d.kind vPARTS).isSome = false → (d.kind == kText) = t → s.length ≤ SZ → (t = true → lets 0 40 (.str s) = true) → (t = false → lets 1 8 (.str s) = true) → 2 ≤ n → ∀ tl : List MK.S,
        evSs (o n) (.ifs (.gdin true vPARTS (.ix (.var 0) (.lit (.int 0)))) [.ifs (.cmp .ne (.bi .len [.var 0]) (.lit (.int 2))) [.ret (.lit (.bl false))] [], .ret (.ite (.cmp .eq (.ix (.var 0) (.lit (.int 0))) (.lit (.str kText))) (.call 3 [.ix (.var 0) (.lit (.int 1))]) (.call 2 [.ix (.var 0) (.lit (.int 1))]))] [] :: tl) [some d.enc, some (.int (k : Int)), none] S = .ret (.bl true) S := by
      intro d s t he hp ht hs h1 h2 hn tl
      obtain ⟨n, rfl⟩ : ∃ j, n = j + 2 := ⟨n - 2, by omega⟩
      have e1 : ∀ ρ : Env, ρ[0]? = some (some d.enc) → evE (o (n + 2)) (.ix (.var 0) (.lit (.int 1))) ρ S = .ok (.str s) S := fun ρ hr => gix (gvar hr) (glit _) (by rw [he]; exact i_tup S _ 1 rfl)
      have hg := ggdin (neg := true) (d := vPARTS) (k0 (n := n + 2) (ρ := [some d.enc, some (.int (k : Int)), none]) (S := S) (i := 0) d rfl)
      rw [hp] at hg
      refine send (sif_t hg rfl (sseq (sif_f (x := false) (gcmp (gbi (gcons (gvar rfl) gnil) (by rw [he]; rfl)) (glit _) rfl) rfl s0) (sret ?_)))
      cases t with
      | true => exact gite_t (gcmp (k0 d rfl) (glit _) (c_eq_str _ _ _)) ht (gcall (gcons (e1 _ rfl) gnil) (by rw [← h1 rfl]; exact cont_ok n S (v := .str s) (decide_eq_true hs)))
      | false => exact gite_f (gcmp (k0 d rfl) (glit _) (c_eq_str _ _ _)) ht (gcall (gcons (e1 _ rfl) gnil) (by rw [← h2 rfl]; exact name_ok n S (v := .str s) (decide_eq_true hs)))
    have node : ∀ (d : D) (pl pa : Nat), lookT d.kind vPARTS = some (pa : Int) → lookT d.kind vPLAIN = some (pl : Int) → d.tl.length = pl + pa → d.dep + 3 ≤ n + 1 → d.dep ≤ k → 1 ≤ d.dep → d.ok →
        evE (o n) (.and [.cmp .eq (.ix (.var 0) (.lit (.int 0))) (.lit (.str kHead)), .not (.call 0 [.ix (.var 0) (.lit (.int 1)), .lit (.int 0), .gl vMOST_CONTENT_rules])]) [some d.enc, some (.int (k : Int)), none] S = .ok (.bl false) S →
        evE (o n) (.and [.cmp .eq (.ix (.var 0) (.lit (.int 0))) (.lit (.str kSwap)), .not (.bi .all [.lc false [2] (.nm 2) (.seq (.sl true true (.var 0) (.lit (.int 1)) (.lit (.int 3)))) [] (.call 1 [.var 2, .lit (.int 1), .lit (.int 1)])])]) [some d.enc, some (.int (k : Int)), none] S = .ok (.bl false) S →
        callF fuel fns (n + 1) 5 [d.enc, .int (k : Int)] S = .ok (.bl true) S := by
      intro d pl pa hp hl hlen hm hk h1 ok hh hs
      have hg := ggdin (neg := true) (d := vPARTS) (k0 (n := n) (ρ := [some d.enc, some (.int (k : Int)), none]) (S := S) (i := 0) d rfl)
      rw [hp] at hg
      have hlt : evBI S .len [d.enc] = some (.int ((d.tl.length + 1 : Nat) : Int)) := by rw [d.enc_eq]; rfl
      have hq : ∀ p ∈ d.parts, callF fuel fns n 5 [p.enc, .int ((k : Int) - 1)] S = .ok (.bl true) S := fun p hpm => by
        have := d.dep_part p hpm
        rw [show ((k : Int) - 1) = ((k - 1 : Nat) : Int) from by omega]
        exact ih p (k - 1) S (d.ok_part p hpm ok) (by omega) (by omega) (by omega)
      obtain ⟨n, rfl⟩ : ∃ j, n = j + 1 := ⟨n - 1, by omega⟩
      refine call_t (F := f__is_deed) rfl rfl rfl rfl (sseq (head_ok d k (by rw [hl]; rfl)) ?_) rfl
      refine sseq (sif_f hg rfl s0) (sseq (sif_f (x := false) ?_ rfl s0) (sseq (sif_f hh rfl s0) (sseq (sif_f hs rfl s0) (sret ?_))))
      · refine gor_f (gcmp (gbi (gcons (gvar rfl) gnil) hlt) (gbin (gbin (glit _) (ggdx (k0 (i := 0) d rfl) hl) rfl) (ggdx (k0 (i := 0) d rfl) hp) rfl) (c_ne_int _ _ _)) ?_ (gor1 ?_)
        · rw [hlen]
          have : (((pl + pa + 1 : Nat) : Int) == 1 + (pl : Int) + (pa : Int)) = true := beq_iff_eq.mpr (by omega)
          rw [this]; rfl
        · have := gcmp (o := o (n + 1)) (op := .eq) (ρ := [some d.enc, some (.int (k : Int)), none]) (S := S) (gvar (i := 1) rfl) (glit (.int 0)) (c_eq_int S _ _)
          rwa [show ((k : Int) == 0) = false from beq_eq_false_iff_ne.mpr (by omega)] at this
      · have ha := gall (o := o (n + 1)) (ρ := [some d.enc, some (.int (k : Int)), none]) (S := S) (i := 2) (it := .seq (.call 4 [.var 0])) (elt := .call 5 [.var 2, .bin .sub (.var 1) (.lit (.int 1))]) (l := d.parts) D.enc (fun _ => true)
          (it_seq (gcall (gcons (gvar rfl) gnil) (parts_ok n S d (by omega))) (wk_tup _)) (by have := d.parts_le; unfold SZ; omega) (by show 2 < 3; decide) (fun p hpm => gcall (gcons (gvar rfl) (gcons (gbin (gvar rfl) (glit _) rfl) gnil)) (hq p hpm))
        rw [show d.parts.all (fun _ => true) = true from by simp] at ha
        exact ha
    have nh : ∀ (d : D) (kk : List Nat) (c : C), (d.kind == kk) = false → evE (o n) (.and [.cmp .eq (.ix (.var 0) (.lit (.int 0))) (.lit (.str kk)), c]) [some d.enc, some (.int (k : Int)), none] S = .ok (.bl false) S := fun d kk c h => gand_f (gcmp (k0 (i := 0) d rfl) (glit _) (c_eq_str _ _ _)) h
    have hd := hk
    cases d with
    | text s => exact call_t (F := f__is_deed) rfl rfl rfl rfl (sseq (head_ok (.text s) k rfl) (leaf (.text s) s true rfl rfl rfl (by unfold SZ; have := ok.2; omega) (fun _ => by simp [lets, ok.1, ok.2]) (fun z => by cases z) (by simp only [D.dep] at hm; omega) _)) rfl
    | need s => exact call_t (F := f__is_deed) rfl rfl rfl rfl (sseq (head_ok (.need s) k rfl) (leaf (.need s) s false rfl rfl rfl (by unfold SZ; have := ok.2.2; omega) (fun z => by cases z) (fun _ => by simp [lets, ok.1, ok.2.1, ok.2.2]) (by simp only [D.dep] at hm; omega) _)) rfl
    | join a b => exact node (.join a b) 0 2 rfl rfl rfl hm hk (by simp [D.dep]) ok (nh _ _ _ rfl) (nh _ _ _ rfl)
    | named a => exact node (.named a) 0 1 rfl rfl rfl hm hk (by simp [D.dep]) ok (nh _ _ _ rfl) (nh _ _ _ rfl)
    | back a => exact node (.back a) 0 1 rfl rfl rfl hm hk (by simp [D.dep]) ok (nh _ _ _ rfl) (nh _ _ _ rfl)
    | sort a => exact node (.sort a) 0 1 rfl rfl rfl hm hk (by simp [D.dep]) ok (nh _ _ _ rfl) (nh _ _ _ rfl)
    | head j a =>
      refine node (.head j a) 1 1 rfl rfl rfl hm hk (by simp [D.dep]) ok ?_ (nh _ _ _ rfl)
      obtain ⟨n, rfl⟩ : ∃ j, n = j + 1 := ⟨n - 1, by simp only [D.dep] at hm; omega⟩
      refine gand_t (gcmp (k0 (i := 0) _ rfl) (glit _) (c_eq_str _ _ _)) rfl (gand1 ?_)
      have := gnot (gcall (o := o (n + 1)) (f := 0) (ρ := [some (D.head j a).enc, some (.int (k : Int)), none]) (gcons (gix (gvar (i := 0) rfl) (glit (.int 1)) (i_tup S _ 1 rfl)) (gcons (glit (.int 0)) (gcons (ggl vMOST_CONTENT_rules) gnil))) (whole_ok n S j 0 40))
      rw [decide_eq_true (show (0 : Int) ≤ (j : Int) by omega), decide_eq_true (show (j : Int) ≤ 40 by have := ok.1; omega)] at this
      exact this
    | swap x y a =>
      refine node (.swap x y a) 2 1 rfl rfl rfl hm hk (by simp [D.dep]) ok (nh _ _ _ rfl) ?_
      obtain ⟨n, rfl⟩ : ∃ j, n = j + 1 := ⟨n - 1, by simp only [D.dep] at hm; omega⟩
      refine gand_t (gcmp (k0 (i := 0) _ rfl) (glit _) (c_eq_str _ _ _)) rfl (gand1 ?_)
      have hl : ∀ c ∈ [x, y], lets 1 1 (.str [c]) = true := fun c hc => by
        have : c ∈ AZ := by
          rcases List.mem_cons.mp hc with rfl | hc
          · exact ok.1
          · rw [List.mem_singleton] at hc; subst hc; exact ok.2.1
        simp [lets, letB, this]
      have ha := gall (o := o (n + 1)) (ρ := [some (D.swap x y a).enc, some (.int (k : Int)), none]) (S := S) (i := 2) (it := .seq (.sl true true (.var 0) (.lit (.int 1)) (.lit (.int 3)))) (elt := .call 1 [.var 2, .lit (.int 1), .lit (.int 1)]) (l := [x, y]) (fun c => .str [c]) (fun _ => true)
        (it_seq (gslm (gvar (i := 0) rfl) (glit (.int 1)) (glit (.int 3)) rfl) (wk_tup _)) (by show 2 ≤ SZ; decide) (by show 2 < 3; decide) (fun c hc => gcall (gcons (gvar rfl) (gcons (glit _) (gcons (glit _) gnil))) (by rw [← hl c hc]; exact are_ok n S (v := .str [c]) 1 1 rfl))
      exact gnot ha
    | same a b c d => exact node (.same a b c d) 0 4 rfl rfl rfl hm hk (by simp [D.dep]) ok (nh _ _ _ rfl) (nh _ _ _ rfl)
end K12

set_option linter.all false
set_option autoImplicit false
set_option maxRecDepth 100000
set_option maxHeartbeats 4000000
namespace K12
open MK MK.A
theorem intsOf_map {α : Type} (f : α → Int) : ∀ l : List α, intsOf (l.map fun a => PV.int (f a)) = some (l.map f)
  | [] => rfl
  | a :: l => by
    show (intsOf (l.map fun a => PV.int (f a))).map (f a :: ·) = _
    rw [intsOf_map f l]; rfl
theorem D.cnt_parts (d : D) : (1 : Int) + (d.parts.map fun p => (p.cnt : Int)).sum = (d.cnt : Int) := by
  cases d <;> simp [D.parts, D.cnt] <;> omega
theorem count_ok : ∀ (m : Nat) (d : D) (S : Store), d.dep ≤ 40 → d.dep + 2 ≤ m → callF fuel fns m 6 [d.enc] S = .ok (.int (d.cnt : Int)) S := by
  intro m
  induction m with
  | zero => intro d S _ h; omega
  | succ n ih =>
    intro d S h40 hm
    obtain ⟨n, rfl⟩ : ∃ j, n = j + 1 := ⟨n - 1, by omega⟩
    refine call_t (F := f__count) rfl rfl rfl rfl (sret ?_) rfl
    have hl := glc (o := o (n + 1)) (ρ := [some d.enc, none]) (S := S) (i := 1) (it := .seq (.call 4 [.var 0])) (elt := .call 6 [.var 1]) (l := d.parts) D.enc (fun p => .int (p.cnt : Int)) (it_seq (gcall (gcons (gvar rfl) gnil) (parts_ok n S d (by omega))) (wk_tup _))
      (by have := d.parts_le; unfold SZ; omega) (by show 1 < 2; decide) (fun p hp => gcall (gcons (gvar rfl) gnil) (ih p S (by have := d.dep_part p hp; omega) (by have := d.dep_part p hp; omega)))
    have hs : evBI S .sum [.lst (d.parts.map fun p => .int (p.cnt : Int))] = some (.int (d.parts.map fun p => (p.cnt : Int)).sum) := by
      show (intsOf (d.parts.map fun p => PV.int (p.cnt : Int))).map _ = _
      rw [intsOf_map]; rfl
    rw [← d.cnt_parts]
    exact gbin (glit _) (gbi (gcons hl gnil) hs) rfl
theorem deed_ok (m : Nat) (d : D) (S : Store) (ok : d.ok) (h5 : d.dep ≤ 5) (h30 : d.cnt ≤ 30) (hm : d.dep + 4 ≤ m) : callF fuel fns m 7 [d.enc] S = .ok (.bl true) S := by
  obtain ⟨n, rfl⟩ : ∃ j, m = j + 1 := ⟨m - 1, by omega⟩
  refine call_t (F := f_is_deed) rfl rfl rfl rfl (sret (gand_t (gcall (gcons (gvar rfl) (gcons (ggl _) gnil)) (is_deed_ok n d 5 S ok h5 (by decide) (by omega))) rfl (gand1 ?_))) rfl
  have := gcmp (o := o n) (op := .le) (ρ := [some d.enc]) (S := S) (gcall (f := 6) (gcons (gvar (i := 0) rfl) gnil) (count_ok n d S (by omega) (by omega))) (ggl vMOST_DEEDS) (z := decide ((d.cnt : Int) ≤ 30)) rfl
  rwa [decide_eq_true (show (d.cnt : Int) ≤ 30 by omega)] at this
/-! ### what is no deed -/
theorem deed_no {n : Nat} {v : PV} {S : Store} (h : callF fuel fns n 5 [v, .int 5] S = .ok (.bl false) S) : callF fuel fns (n + 1) 7 [v] S = .ok (.bl false) S :=
  call_t (F := f_is_deed) rfl rfl rfl rfl (sret (gand_f (gcall (gcons (gvar rfl) (gcons (ggl _) gnil)) h) rfl)) rfl
theorem no_tup {n : Nat} {v : PV} {S : Store} (h : isTy S .tuple v = some false) : callF fuel fns (n + 2) 7 [v] S = .ok (.bl false) S :=
  deed_no (call_t (F := f__is_deed) rfl rfl rfl rfl (send (sif_t (gor_t (gnot (gisi (gvar rfl) h)) rfl) rfl (sret (glit _)))) rfl)
theorem no_empty {n : Nat} {S : Store} : callF fuel fns (n + 2) 7 [.tup []] S = .ok (.bl false) S :=
  deed_no (call_t (F := f__is_deed) rfl rfl rfl rfl (send (sif_t (gor_f (x := !true) (gnot (gisi (gvar rfl) rfl)) rfl (gor_t (gcmp (gbi (gcons (gvar rfl) gnil) rfl) (glit _) (c_eq_int _ _ _)) rfl)) rfl (sret (glit _)))) rfl)
/-- another word ahead -/
theorem no_kind {n : Nat} {S : Store} {k : List Nat} {r : List PV} (h : (lookT k vPLAIN).isSome = false) : callF fuel fns (n + 2) 7 [.tup (.str k :: r)] S = .ok (.bl false) S := by
  refine deed_no (call_t (F := f__is_deed) rfl rfl rfl rfl (send (sif_t (x := true) ?_ rfl (sret (glit _)))) rfl)
  have e0 : evE (o n) (.ix (.var 0) (.lit (.int 0))) [some (.tup (.str k :: r)), some (.int 5), none] S = .ok (.str k) S := gix (gvar rfl) (glit _) (i_tup S _ 0 rfl)
  have := ggdin (neg := true) (d := vPLAIN) e0
  rw [h] at this
  refine gor_f (x := !true) (gnot (gisi (gvar rfl) rfl)) rfl (gor_f (gcmp (gbi (gcons (gvar rfl) gnil) (b_len_tup _ _)) (glit _) (c_eq_int _ _ _)) (beq_eq_false_iff_ne.mpr (by rw [List.length_cons]; omega)) (gor_f (x := !true) (gnot (gisi e0 rfl)) rfl (gor1 this)))
/-- the first statement lets such a tuple by -/
theorem head2 {n : Nat} {S : Store} {a : List MK.S} {k : List Nat} {r : List PV} (hk : (lookT k vPLAIN).isSome = true) : evS (o n) (.ifs (.or [.not (.isi (.var 0) .tuple), .cmp .eq (.bi .len [.var 0]) (.lit (.int 0)), .not (.isi (.ix (.var 0) (.lit (.int 0))) .str), .gdin true vPLAIN (.ix (.var 0) (.lit (.int 0)))]) a []) [some (.tup (.str k :: r)), some (.int 5), none] S = .next [some (.tup (.str k :: r)), some (.int 5), none] S := by
  have e0 : evE (o n) (.ix (.var 0) (.lit (.int 0))) [some (.tup (.str k :: r)), some (.int 5), none] S = .ok (.str k) S := gix (gvar rfl) (glit _) (i_tup S _ 0 rfl)
  have := ggdin (neg := true) (d := vPLAIN) e0
  rw [hk] at this
  exact sif_f (gor_f (x := !true) (gnot (gisi (gvar rfl) rfl)) rfl (gor_f (gcmp (gbi (gcons (gvar rfl) gnil) (b_len_tup _ _)) (glit _) (c_eq_int _ _ _)) (beq_eq_false_iff_ne.mpr (by rw [List.length_cons]; omega)) (gor_f (x := !true) (gnot (gisi e0 rfl)) rfl (gor1 this)))) rfl s0
theorem no_text1 {n : Nat} {S : Store} : callF fuel fns (n + 2) 7 [.tup [.str kText]] S = .ok (.bl false) S := by
  have e0 : evE (o n) (.ix (.var 0) (.lit (.int 0))) [some (.tup [.str kText]), some (.int 5), none] S = .ok (.str kText) S := gix (gvar rfl) (glit _) (i_tup S _ 0 rfl)
  exact deed_no (call_t (F := f__is_deed) rfl rfl rfl rfl (sseq (head2 rfl) (send (sif_t (ggdin e0) rfl (send (sif_t (gcmp (gbi (gcons (gvar rfl) gnil) rfl) (glit _) (c_ne_int _ _ _)) rfl (sret (glit _))))))) rfl)
theorem no_need {n : Nat} {S : Store} : callF fuel fns (n + 4) 7 [.tup [.str kNeed, .str []]] S = .ok (.bl false) S := by
  have e0 : ∀ ρ : Env, ρ[0]? = some (some (.tup [.str kNeed, .str []])) → evE (o (n + 2)) (.ix (.var 0) (.lit (.int 0))) ρ S = .ok (.str kNeed) S := fun ρ h => gix (gvar h) (glit _) (i_tup S _ 0 rfl)
  refine deed_no (call_t (F := f__is_deed) rfl rfl rfl rfl (sseq (head2 rfl) (send (sif_t (ggdin (e0 _ rfl)) rfl (sseq (sif_f (gcmp (gbi (gcons (gvar rfl) gnil) rfl) (glit _) (c_ne_int _ _ _)) rfl s0) (sret (gite_f (gcmp (e0 _ rfl) (glit _) (c_eq_str _ _ _)) rfl ?_)))))) rfl)
  exact gcall (gcons (gix (gvar rfl) (glit _) (i_tup S _ 1 rfl)) gnil) (name_ok n S (v := .str []) rfl)
theorem no_join {n : Nat} {S : Store} {v : PV} : callF fuel fns (n + 2) 7 [.tup [.str kJoin, v]] S = .ok (.bl false) S := by
  have e0 : ∀ ρ : Env, ρ[0]? = some (some (.tup [.str kJoin, v])) → evE (o n) (.ix (.var 0) (.lit (.int 0))) ρ S = .ok (.str kJoin) S := fun ρ h => gix (gvar h) (glit _) (i_tup S _ 0 rfl)
  exact deed_no (call_t (F := f__is_deed) rfl rfl rfl rfl (sseq (head2 rfl) (sseq (sif_f (ggdin (e0 _ rfl)) rfl s0) (send (sif_t (gor_t (gcmp (gbi (gcons (gvar rfl) gnil) rfl) (gbin (gbin (glit _) (ggdx (e0 _ rfl) rfl) rfl) (ggdx (e0 _ rfl) rfl) rfl) (c_ne_int _ _ _)) rfl) rfl (sret (glit _)))))) rfl)
theorem no_head {n : Nat} {S : Store} {v : PV} : callF fuel fns (n + 3) 7 [.tup [.str kHead, .int 41, v]] S = .ok (.bl false) S := by
  have e0 : ∀ ρ : Env, ρ[0]? = some (some (.tup [.str kHead, .int 41, v])) → evE (o (n + 1)) (.ix (.var 0) (.lit (.int 0))) ρ S = .ok (.str kHead) S := fun ρ h => gix (gvar h) (glit _) (i_tup S _ 0 rfl)
  refine deed_no (call_t (F := f__is_deed) rfl rfl rfl rfl (sseq (head2 rfl) (sseq (sif_f (ggdin (e0 _ rfl)) rfl s0) (sseq (sif_f (gor_f (gcmp (gbi (gcons (gvar rfl) gnil) rfl) (gbin (gbin (glit _) (ggdx (e0 _ rfl) rfl) rfl) (ggdx (e0 _ rfl) rfl) rfl) (c_ne_int _ _ _)) rfl (gor1 (gcmp (gvar rfl) (glit _) (c_eq_int _ _ _)))) rfl s0) (send (sif_t (gand_t (gcmp (e0 _ rfl) (glit _) (c_eq_str _ _ _)) rfl (gand1 (gnot (x := false) ?_))) rfl (sret (glit _))))))) rfl)
  exact gcall (gcons (gix (gvar rfl) (glit _) (i_tup S _ 1 rfl)) (gcons (glit _) (gcons (ggl _) gnil))) (whole_ok n S 41 0 40)
end K12

set_option linter.all false
set_option autoImplicit false
set_option maxRecDepth 100000
set_option maxHeartbeats 4000000
namespace K12
open MK MK.A
/-! ### words -/
inductive Wd where
  | text (s : List Nat) | need (s : List Nat) | named | join | head (k : Nat) | back | sort | swap (x y : Nat) | same (n : Nat) | leap (n : Nat)
def Wd.kind : Wd → List Nat
  | .text _ => kText
  | .need _ => kNeed
  | .named => kNamed
  | .join => kJoin
  | .head _ => kHead
  | .back => kBack
  | .sort => kSort
  | .swap _ _ => kSwap
  | .same _ => kSame
  | .leap _ => kLeap
def Wd.tl : Wd → List PV
  | .text s => [.str s]
  | .need s => [.str s]
  | .head k => [.int (k : Int)]
  | .swap x y => [.str [x], .str [y]]
  | .same n => [.int (n : Int)]
  | .leap n => [.int (n : Int)]
  | _ => []
def Wd.enc (w : Wd) : PV := .tup (.str w.kind :: w.tl)
def Ws : D → List Wd
  | .text s => [.text s]
  | .need s => [.need s]
  | .join a b => Ws a ++ Ws b ++ [.join]
  | .named a => Ws a ++ [.named]
  | .back a => Ws a ++ [.back]
  | .sort a => Ws a ++ [.sort]
  | .head k a => Ws a ++ [.head k]
  | .swap x y a => Ws a ++ [.swap x y]
  | .same a b c d => Ws a ++ Ws b ++ ([.same ((Ws c).length + 1)] ++ Ws c ++ [.leap (Ws d).length] ++ Ws d)
theorem Ws_len (d : D) : (Ws d).length ≤ 2 * d.cnt ∧ 1 ≤ (Ws d).length := by
  induction d <;> simp only [Ws, D.cnt, List.length_append, List.length_cons, List.length_nil] <;> omega
theorem Wd.plain2 (w : Wd) : w.enc.plain 2 = true := by cases w <;> simp [Wd.enc, Wd.tl, PV.plain, PV.plainAll]
theorem plain_ws (n : Nat) : ∀ l : List Wd, PV.plainAll (n + 2) (l.map Wd.enc) = true
  | [] => by simp [PV.plainAll]
  | w :: l => by
    rw [List.map_cons]
    unfold PV.plainAll
    rw [plain_ws n l, (plain_mono (show 2 ≤ n + 2 by omega)).1 _ w.plain2]
    rfl
theorem add_lst (S : Store) (x y : List PV) (h : x.length + y.length ≤ SZ) : evBin S .add (.lst x) (.lst y) = some (.lst (x ++ y)) := if_pos h
theorem add_tup (S : Store) (x y : List PV) (h : x.length + y.length ≤ SZ) : evBin S .add (.tup x) (.tup y) = some (.tup (x ++ y)) := if_pos h
/-- kind in ("text", "need") -/
def leafB (k : List Nat) : Bool := k == kText || k == kNeed
theorem mem_leaf {n : Nat} {ρ : Env} {S : Store} {i : Nat} {k : List Nat} (h : ρ[i]? = some (some (.str k))) (hk : k.length ≠ 1) : evE (o n) (.cmp .mem (.var i) (.tup [.lit (.str kText), .lit (.str kNeed)])) ρ S = .ok (.bl (leafB k)) S := by
  refine gcmp (gvar h) (gtup (gcons (glit _) (gcons (glit _) gnil)) (by decide)) ?_
  have e : evIn S (.str k) (.tup [.str kText, .str kNeed]) = some (leafB k) := by
    have e0 : ∀ (v : PV), (∀ c, v ≠ .str [c]) → evIn S v (.tup [.str kText, .str kNeed]) = (match v.plain DEEP, seqOf S (.tup [.str kText, .str kNeed]) with
      | true, some ys => if PV.plainAll DEEP ys then some (memV v ys) else none
      | _, _ => none) := fun v hv => by
      unfold evIn
      split
      · rename_i c y e; exact absurd rfl (hv c)
      · rfl
    rw [e0 (.str k) (fun c e => by cases e; exact hk rfl)]
    show (if PV.plainAll DEEP [.str kText, .str kNeed] then some (memV (.str k) [.str kText, .str kNeed]) else none) = _
    rw [if_pos (by decide +kernel)]
    show some (PV.eqv (.str kText) (.str k) || (PV.eqv (.str kNeed) (.str k) || false)) = _
    have h1 : PV.eqv (.str kText) (.str k) = (k == kText) := by show (kText == k) = _; exact Bool.beq_comm
    have h2 : PV.eqv (.str kNeed) (.str k) = (k == kNeed) := by show (kNeed == k) = _; exact Bool.beq_comm
    rw [h1, h2, Bool.or_false]; rfl
  exact e
theorem D.kind_len (d : D) : d.kind.length ≠ 1 := by cases d <;> simp [D.kind]
theorem words_ok : ∀ (m : Nat) (d : D) (S : Store), d.dep ≤ 40 → d.cnt ≤ 1000 → d.dep + 1 ≤ m → callF fuel fns m 8 [d.enc] S = .ok (.lst ((Ws d).map Wd.enc)) S := by
  intro m
  induction m with
  | zero => intro d S _ _ h; omega
  | succ n ih =>
    intro d S h40 hc hm
    have pl : (PV.lst ((Ws d).map Wd.enc)).plain 60 = true := by show PV.plainAll 59 _ = true; exact plain_ws 57 _
    refine call_t (F := f__words) rfl rfl rfl rfl ?_ pl
    have lw : ∀ p ∈ d.parts, p.cnt ≤ d.cnt := fun p hp => by
      cases d <;> simp only [D.parts, List.mem_cons, List.not_mem_nil, or_false] at hp <;> simp only [D.cnt]
      all_goals first
        | (exact hp.elim)
        | (subst hp; omega)
        | (rcases hp with rfl | rfl <;> omega)
        | (rcases hp with rfl | rfl | rfl | rfl <;> omega)
    have sub : ∀ p ∈ d.parts, ∀ S, callF fuel fns n 8 [p.enc] S = .ok (.lst ((Ws p).map Wd.enc)) S := fun p hp S => ih p S (by have := d.dep_part p hp; omega) (by have := lw p hp; omega) (by have := d.dep_part p hp; omega)
    have a1 : evS (o n) (.asg (.nm 1) (.ix (.var 0) (.lit (.int 0)))) (some d.enc :: List.replicate 7 none) S = .next [some d.enc, some (.str d.kind), none, none, none, none, none, none] S := sasg (k0 (i := 0) d rfl) (by show 1 < 8; decide)
    have z : ∀ k, (lookT k vPLAIN).isSome = true ∨ True := fun _ => .inr trivial
    have one : ∀ (p : D) (w : Wd), d.parts = [p] → Ws d = Ws p ++ [w] → leafB d.kind = false → (d.kind == kSame) = false → (d.kind == kJoin) = false → (∀ ρ : Env, ρ[0]? = some (some d.enc) → evE (o n) (.ix (.var 0) (.neg (.lit (.int 1)))) ρ S = .ok p.enc S) → (∀ ρ : Env, ρ[0]? = some (some d.enc) → evE (o n) (.sl false true (.var 0) (.lit .non) (.neg (.lit (.int 1)))) ρ S = .ok w.enc S) →
        evSs (o n) f__words.body (some d.enc :: List.replicate 7 none) S = .ret (.lst ((Ws d).map Wd.enc)) S := by
      intro p w hp hw q1 q2 q3 e1 e2
      have l1 := (Ws_len p).1
      have l2 := lw p (by rw [hp]; simp)
      have hb := mem_leaf (n := n) (ρ := [some d.enc, some (.str d.kind), none, none, none, none, none, none]) (S := S) (i := 1) rfl d.kind_len
      refine sseq a1 (sseq (sif_f hb q1 s0) (sseq (sif_f (gcmp (gvar rfl) (glit _) (c_eq_str _ _ _)) q2 s0) (sseq (sif_f (gcmp (gvar rfl) (glit _) (c_eq_str _ _ _)) q3 s0) (sret ?_))))
      have := gbin (gcall (gcons (e1 [some d.enc, some (.str d.kind), none, none, none, none, none, none] rfl) gnil) (sub p (by rw [hp]; simp) S)) (glst (gcons (e2 _ rfl) gnil) (by show 1 ≤ SZ; decide)) (add_lst S _ _ (by rw [List.length_map]; show _ + 1 ≤ SZ; unfold SZ; omega))
      rw [hw, List.map_append]
      exact this
    cases d with
    | text s => exact sseq a1 (send (sif_t (mem_leaf (i := 1) rfl (by show kText.length ≠ 1; decide)) rfl (sret (glst (gcons (gvar rfl) gnil) (by show 1 ≤ SZ; decide)))))
    | need s => exact sseq a1 (send (sif_t (mem_leaf (i := 1) rfl (by show kNeed.length ≠ 1; decide)) rfl (sret (glst (gcons (gvar rfl) gnil) (by show 1 ≤ SZ; decide)))))
    | named a => exact one a .named rfl rfl rfl rfl rfl (fun ρ h => gix (gvar h) (gneg (glit _)) rfl) (fun ρ h => gslt (gvar h) (gneg (glit _)) rfl)
    | back a => exact one a .back rfl rfl rfl rfl rfl (fun ρ h => gix (gvar h) (gneg (glit _)) rfl) (fun ρ h => gslt (gvar h) (gneg (glit _)) rfl)
    | sort a => exact one a .sort rfl rfl rfl rfl rfl (fun ρ h => gix (gvar h) (gneg (glit _)) rfl) (fun ρ h => gslt (gvar h) (gneg (glit _)) rfl)
    | head k a => exact one a (.head k) rfl rfl rfl rfl rfl (fun ρ h => gix (gvar h) (gneg (glit _)) rfl) (fun ρ h => gslt (gvar h) (gneg (glit _)) rfl)
    | swap x y a => exact one a (.swap x y) rfl rfl rfl rfl rfl (fun ρ h => gix (gvar h) (gneg (glit _)) rfl) (fun ρ h => gslt (gvar h) (gneg (glit _)) rfl)
    | join a b =>
      have la := (Ws_len a).1
      have lb := (Ws_len b).1
      simp only [D.cnt] at hc
      refine sseq a1 (sseq (sif_f (mem_leaf (i := 1) rfl (by show kJoin.length ≠ 1; decide)) rfl s0) (sseq (sif_f (gcmp (gvar rfl) (glit _) (c_eq_str _ _ _)) rfl s0) (send (sif_t (gcmp (gvar rfl) (glit _) (c_eq_str _ _ _)) rfl (sret ?_)))))
      have := gbin (o := o n) (ρ := [some (D.join a b).enc, some (.str kJoin), none, none, none, none, none, none]) (S := S) (gbin (gcall (f := 8) (gcons (gix (gvar (i := 0) rfl) (glit (.int 1)) (i_tup S _ 1 rfl)) gnil) (sub a (by simp [D.parts]) S)) (gcall (f := 8) (gcons (gix (gvar (i := 0) rfl) (glit (.int 2)) (i_tup S _ 2 rfl)) gnil) (sub b (by simp [D.parts]) S)) (add_lst S _ _ (by rw [List.length_map, List.length_map]; unfold SZ; omega)))
        (glst (gcons (gtup (gcons (gvar (i := 1) rfl) gnil) (by show 1 ≤ SZ; decide)) gnil) (by show 1 ≤ SZ; decide)) (add_lst S _ _ (by rw [List.length_append, List.length_map, List.length_map]; show _ + 1 ≤ SZ; unfold SZ; omega))
      rw [show (Ws (.join a b)).map Wd.enc = ((Ws a).map Wd.enc ++ (Ws b).map Wd.enc) ++ [.tup [.str kJoin]] from by simp only [Ws, List.map_append]; rfl]
      exact this
    | same a b c e =>
      have la := (Ws_len a).1
      have lb := (Ws_len b).1
      have lc := (Ws_len c).1
      have le := (Ws_len e).1
      simp only [D.cnt] at hc
      have hl := glc (o := o n) (ρ := [some (D.same a b c e).enc, some (.str kSame), none, none, none, none, none, none]) (S := S) (i := 7) (it := .seq (.sl true false (.var 0) (.lit (.int 1)) (.lit .non))) (elt := .call 8 [.var 7]) (l := [a, b, c, e]) D.enc (fun p => .lst ((Ws p).map Wd.enc))
        (it_seq (gslf (gvar (i := 0) rfl) (glit (.int 1)) rfl) (wk_tup _)) (by show 4 ≤ SZ; decide) (by show 7 < 8; decide) (fun p hp => gcall (gcons (gvar rfl) gnil) (sub p hp S))
      have e2 : ∀ ρ : Env, ρ[1]? = some (some (.str kSame)) → ρ[5]? = some (some (.lst ((Ws c).map Wd.enc))) → ρ[6]? = some (some (.lst ((Ws e).map Wd.enc))) → evE (o n) (.bin .add (.bin .add (.bin .add (.lst false [.tup [.var 1, .bin .add (.bi .len [.var 5]) (.lit (.int 1))]]) (.var 5)) (.lst false [.tup [.lit (.str kLeap), .bi .len [.var 6]]])) (.var 6)) ρ S =
          .ok (.lst ((([.tup [.str kSame, .int ((((Ws c).map Wd.enc).length : Int) + 1)]] ++ (Ws c).map Wd.enc) ++ [.tup [.str kLeap, .int (((Ws e).map Wd.enc).length : Int)]]) ++ (Ws e).map Wd.enc)) S := fun ρ h1 h5 h6 => by
        refine gbin (gbin (gbin (glst (gcons (gtup (gcons (gvar h1) (gcons (gbin (gbi (gcons (gvar h5) gnil) (b_len_lst _ _)) (glit (.int 1)) rfl) gnil)) (by show 2 ≤ SZ; decide)) gnil) (by show 1 ≤ SZ; decide)) (gvar h5) (add_lst S _ _ ?_)) (glst (gcons (gtup (gcons (glit _) (gcons (gbi (gcons (gvar h6) gnil) (b_len_lst _ _)) gnil)) (by show 2 ≤ SZ; decide)) gnil) (by show 1 ≤ SZ; decide)) (add_lst S _ _ ?_)) (gvar h6) (add_lst S _ _ ?_)
        · rw [List.length_map]; show 1 + _ ≤ SZ; unfold SZ; omega
        · simp only [List.length_append, List.length_map, List.length_cons, List.length_nil]; unfold SZ; omega
        · simp only [List.length_append, List.length_map, List.length_cons, List.length_nil]; unfold SZ; omega
      have e3 : (Ws (.same a b c e)).map Wd.enc = ((Ws a).map Wd.enc ++ (Ws b).map Wd.enc) ++ ((([.tup [.str kSame, .int ((((Ws c).map Wd.enc).length : Int) + 1)]] ++ (Ws c).map Wd.enc) ++ [.tup [.str kLeap, .int (((Ws e).map Wd.enc).length : Int)]]) ++ (Ws e).map Wd.enc) := by
        simp only [Ws, List.map_append, List.length_map]; rfl
      rw [e3]
      refine sseq a1 (sseq (sif_f (mem_leaf (i := 1) rfl (by show kSame.length ≠ 1; decide)) rfl s0) (send (sif_t (gcmp (gvar rfl) (glit _) (c_eq_str _ _ _)) rfl (sseq (stp hl rfl) (sseq (sasg (e2 _ rfl rfl rfl) (by show 2 < 8; decide)) (sret (gbin (gbin (gvar rfl) (gvar rfl) (add_lst S _ _ ?_)) (gvar rfl) (add_lst S _ _ ?_))))))))
      · rw [List.length_map, List.length_map]; unfold SZ; omega
      · simp only [List.length_append, List.length_map, List.length_cons, List.length_nil]; unfold SZ; omega
theorem words_of_ok (m : Nat) (d : D) (S : Store) (ok : d.ok) (h5 : d.dep ≤ 5) (h30 : d.cnt ≤ 30) (hm : d.dep + 5 ≤ m) : callF fuel fns m 9 [d.enc] S = .ok (.tup ((Ws d).map Wd.enc)) S := by
  obtain ⟨n, rfl⟩ : ∃ j, m = j + 1 := ⟨m - 1, by omega⟩
  exact call_t (F := f_words_of) rfl rfl rfl rfl (sseq (sif_f (gnot (x := true) (gcall (gcons (gvar rfl) gnil) (deed_ok n d S ok h5 h30 (by omega)))) rfl s0) (sret (gbi (gcons (gcall (gcons (gvar rfl) gnil) (words_ok n d S (by omega) (by omega) (by omega))) gnil) rfl))) (plain_ws 57 _)
end K12

set_option linter.all false
set_option autoImplicit false
set_option maxRecDepth 100000
set_option maxHeartbeats 4000000
namespace K12
open MK MK.A
/-! ### the law's words -/
def gI : D ⊕ PV → PV
  | .inl d => d.enc
  | .inr v => v
def hI : D ⊕ PV → PV
  | .inl d => .tup ((Ws d).map Wd.enc)
  | .inr v => v
def lI : D ⊕ PV → Bool
  | .inl _ => true
  | .inr _ => false
def nI (x : D ⊕ PV) : Bool := !lI x
def D.items : D → List (D ⊕ PV)
  | .text s => [.inr (.str kText), .inr (.str s)]
  | .need s => [.inr (.str kNeed), .inr (.str s)]
  | .join a b => [.inr (.str kJoin), .inl a, .inl b]
  | .named a => [.inr (.str kNamed), .inl a]
  | .back a => [.inr (.str kBack), .inl a]
  | .sort a => [.inr (.str kSort), .inl a]
  | .head k a => [.inr (.str kHead), .inr (.int (k : Int)), .inl a]
  | .swap x y a => [.inr (.str kSwap), .inr (.str [x]), .inr (.str [y]), .inl a]
  | .same a b c d => [.inr (.str kSame), .inl a, .inl b, .inl c, .inl d]
theorem items_enc (d : D) : d.enc = .tup (d.items.map gI) := by cases d <;> rfl
theorem items_le (d : D) : d.items.length ≤ SZ := by cases d <;> (simp only [D.items, List.length_cons, List.length_nil]; unfold SZ; omega)
theorem items_in (d : D) (p : D) (h : Sum.inl p ∈ d.items) : p ∈ d.parts := by cases d <;> simp_all [D.items, D.parts]
theorem items_isi (d : D) (x : D ⊕ PV) (h : x ∈ d.items) (S : Store) : isTy S .tuple (gI x) = some (lI x) := by
  cases x with
  | inl p => rw [show gI (.inl p) = p.enc from rfl, p.enc_eq]; rfl
  | inr v => cases d <;> simp [D.items] at h <;> (first | (rcases h with rfl | rfl | rfl <;> rfl) | (rcases h with rfl | rfl <;> rfl) | (subst h; rfl))
/-- the tuples of a list, one behind another -/
theorem cat_loop {n : Nat} {S : Store} {dv : PV} {a1 k3 : Option PV} (ys : List (List PV)) : ∀ (acc : List PV) (x2 : Option PV), acc.length + ys.flatten.length ≤ SZ →
    ∃ x2', forL (turn (o n) (.nm 2) [.asg (.nm 4) (.bin .add (.var 4) (.var 2))]) (ys.map .tup) [some dv, a1, x2, k3, some (.tup acc)] S = .next [some dv, a1, x2', k3, some (.tup (acc ++ ys.flatten))] S := by
  induction ys with
  | nil => intro acc x2 _; exact ⟨x2, by simp [forL]⟩
  | cons y ys ih =>
    intro acc x2 h
    rw [List.flatten_cons, List.length_append] at h
    obtain ⟨x', e⟩ := ih (acc ++ y) (some (.tup y)) (by rw [List.length_append]; omega)
    refine ⟨x', ?_⟩
    rw [List.map_cons, forL, turn_nm _ _ _ (by show 2 < 5; decide)]
    have : evSs (o n) [.asg (.nm 4) (.bin .add (.var 4) (.var 2))] ([some dv, a1, x2, k3, some (.tup acc)].set 2 (some (.tup y))) S = .next [some dv, a1, some (.tup y), k3, some (.tup (acc ++ y))] S :=
      sseq (sasg (gbin (gvar rfl) (gvar rfl) (add_tup S _ _ (by omega))) (by show 4 < 5; decide)) s0
    rw [this]
    show forL _ (ys.map .tup) _ S = _
    rw [e, List.flatten_cons, List.append_assoc]
theorem law_words_ok : ∀ (m : Nat) (d : D) (S : Store), d.dep ≤ 40 → d.cnt ≤ 1000 → d.dep + 1 ≤ m → callF fuel fns m 16 [d.enc] S = .ok (.tup ((Ws d).map Wd.enc)) S := by
  intro m
  induction m with
  | zero => intro d S _ _ h; omega
  | succ n ih =>
    intro d S h40 hc hm
    refine call_t (F := f__law_words) rfl rfl rfl rfl ?_ (by show PV.plainAll 59 _ = true; exact plain_ws 57 _)
    have lw : ∀ p ∈ d.parts, p.cnt ≤ d.cnt := fun p hp => by
      cases d <;> simp only [D.parts, List.mem_cons, List.not_mem_nil, or_false] at hp <;> simp only [D.cnt]
      all_goals first
        | (exact hp.elim)
        | (subst hp; omega)
        | (rcases hp with rfl | rfl <;> omega)
        | (rcases hp with rfl | rfl | rfl | rfl <;> omega)
    have a1 : evS (o n) (.asg (.tp [.nm 3, .nm 4]) (.tup [.ix (.var 0) (.lit (.int 0)), .tup []])) (some d.enc :: List.replicate 4 none) S = .next [some d.enc, none, none, some (.str d.kind), some (.tup [])] S :=
      stp (gtup (gcons (k0 (i := 0) d rfl) (gcons (gtup gnil (by decide)) gnil)) (by show 2 ≤ SZ; decide)) rfl
    have inner := glcF (o := o n) (ρ := [some d.enc, none, none, some (.str d.kind), some (.tup [])]) (S := S) (i := 2) (it := .seq (.var 0)) (c := .isi (.var 2) .tuple) (elt := .call 16 [.var 2]) (l := d.items) gI hI lI
      (it_seq (gvar (i := 0) rfl) (by rw [items_enc]; rfl)) (items_le d) (by show 2 < 5; decide) (fun x hx => gisi (gvar rfl) (items_isi d x hx S))
      (fun x hx hl => by
        cases x with
        | inr v => cases hl
        | inl p =>
          have hp := items_in d p hx
          exact gcall (gcons (gvar rfl) gnil) (ih p S (by have := d.dep_part p hp; omega) (by have := lw p hp; omega) (by have := d.dep_part p hp; omega)))
    have fe : (d.items.filter lI).map hI = (d.parts.map fun p => (Ws p).map Wd.enc).map PV.tup := by cases d <;> rfl
    rw [fe] at inner
    have many : ∀ (w : Wd), leafB d.kind = false → (d.kind == kSame) = false → Ws d = (d.parts.map Ws).flatten ++ [w] → (d.items.filter nI).map gI = (.str w.kind :: w.tl) →
        evSs (o n) f__law_words.body (some d.enc :: List.replicate 4 none) S = .ret (.tup ((Ws d).map Wd.enc)) S := by
      intro w q1 q2 hw hi
      have hwl := (Ws_len d).1
      have hfl : ((d.parts.map fun p => (Ws p).map Wd.enc)).flatten = ((d.parts.map Ws).flatten).map Wd.enc := by
        rw [List.map_flatten, List.map_map]; rfl
      have hfn : ((d.parts.map Ws).flatten).length + 1 = (Ws d).length := by rw [hw, List.length_append]; rfl
      obtain ⟨x2, el⟩ := cat_loop (n := n) (S := S) (dv := d.enc) (a1 := some (.lst ((d.parts.map fun p => (Ws p).map Wd.enc).map PV.tup))) (k3 := some (.str d.kind)) (d.parts.map fun p => (Ws p).map Wd.enc) [] none (by rw [hfl, List.length_map, List.length_nil]; unfold SZ; omega)
      rw [hfl, List.nil_append] at el
      have efor : evS (o n) (.for_ (.nm 2) (.seq (.var 1)) [.asg (.nm 4) (.bin .add (.var 4) (.var 2))]) [some d.enc, some (.lst ((d.parts.map fun p => (Ws p).map Wd.enc).map PV.tup)), none, some (.str d.kind), some (.tup [])] S = .next [some d.enc, some (.lst ((d.parts.map fun p => (Ws p).map Wd.enc).map PV.tup)), x2, some (.str d.kind), some (.tup (((d.parts.map Ws).flatten).map Wd.enc))] S := by
        rw [evS_for, it_seq (gvar (i := 1) rfl) (wk_lst _), Out.toS_ok, forK, forW_free rfl]
        exact el
      have lastE := glcF (o := o n) (ρ := [some d.enc, some (.lst ((d.parts.map fun p => (Ws p).map Wd.enc).map PV.tup)), x2, some (.str d.kind), some (.tup (((d.parts.map Ws).flatten).map Wd.enc))]) (S := S) (i := 2) (it := .seq (.var 0)) (c := .not (.isi (.var 2) .tuple)) (elt := .var 2) (l := d.items) gI gI nI
        (it_seq (gvar (i := 0) rfl) (by rw [items_enc]; rfl)) (items_le d) (by show 2 < 5; decide) (fun x hx => gnot (gisi (gvar rfl) (items_isi d x hx S))) (fun x hx _ => gvar rfl)
      rw [hi] at lastE
      refine sseq a1 (sseq (sif_f (mem_leaf (i := 3) rfl d.kind_len) q1 s0) (sseq (sasg inner (by show 1 < 5; decide)) (sseq (sif_f (gcmp (gvar rfl) (glit _) (c_eq_str _ _ _)) q2 s0) (sseq efor (sret ?_)))))
      have := gbin (gvar (o := o n) (ρ := [some d.enc, some (.lst ((d.parts.map fun p => (Ws p).map Wd.enc).map PV.tup)), x2, some (.str d.kind), some (.tup (((d.parts.map Ws).flatten).map Wd.enc))]) (S := S) (i := 4) rfl) (gtup (gcons (gbi (b := .tuple) (gcons lastE gnil) rfl) gnil) (by show 1 ≤ SZ; decide)) (add_tup S _ _ (by rw [List.length_map]; show _ + 1 ≤ SZ; unfold SZ; omega))
      rw [hw, List.map_append]
      exact this
    cases d with
    | text s => exact sseq a1 (send (sif_t (mem_leaf (i := 3) rfl (by show kText.length ≠ 1; decide)) rfl (sret (gtup (gcons (gvar rfl) gnil) (by show 1 ≤ SZ; decide)))))
    | need s => exact sseq a1 (send (sif_t (mem_leaf (i := 3) rfl (by show kNeed.length ≠ 1; decide)) rfl (sret (gtup (gcons (gvar rfl) gnil) (by show 1 ≤ SZ; decide)))))
    | join a b => exact many .join rfl rfl (by simp [Ws, D.parts]) rfl
    | named a => exact many .named rfl rfl (by simp [Ws, D.parts]) rfl
    | back a => exact many .back rfl rfl (by simp [Ws, D.parts]) rfl
    | sort a => exact many .sort rfl rfl (by simp [Ws, D.parts]) rfl
    | head k a => exact many (.head k) rfl rfl (by simp [Ws, D.parts]) rfl
    | swap x y a => exact many (.swap x y) rfl rfl (by simp [Ws, D.parts]) rfl
    | same a b c e =>
      have la := (Ws_len a).1
      have lb := (Ws_len b).1
      have lc := (Ws_len c).1
      have le := (Ws_len e).1
      simp only [D.cnt] at hc
      have hx : ∀ (ρ : Env) (k : Nat) (p : D), ρ[1]? = some (some (.lst (((D.same a b c e).parts.map fun p => (Ws p).map Wd.enc).map PV.tup))) → [a, b, c, e][k]? = some p → evE (o n) (.ix (.var 1) (.lit (.int (k : Int)))) ρ S = .ok (.tup ((Ws p).map Wd.enc)) S := fun ρ k p h1 hp => by
        refine gix (gvar h1) (glit _) (i_lst S _ k ?_)
        rw [List.map_map, List.getElem?_map]
        show ([a, b, c, e][k]?).map _ = _
        rw [hp]; rfl
      have e3 : (Ws (.same a b c e)).map Wd.enc = ((((((Ws a).map Wd.enc ++ (Ws b).map Wd.enc) ++ [.tup [.str kSame, .int ((((Ws c).map Wd.enc).length : Int) + 1)]]) ++ (Ws c).map Wd.enc) ++ [.tup [.str kLeap, .int (((Ws e).map Wd.enc).length : Int)]]) ++ (Ws e).map Wd.enc) := by
        simp only [Ws, List.map_append, List.length_map, List.append_assoc]; rfl
      rw [e3]
      have X := fun ρ h k p hp => hx ρ k p h hp
      refine sseq a1 (sseq (sif_f (mem_leaf (i := 3) rfl (by show kSame.length ≠ 1; decide)) rfl s0) (sseq (sasg inner (by show 1 < 5; decide)) (send (sif_t (gcmp (gvar rfl) (glit _) (c_eq_str _ _ _)) rfl (sret ?_)))))
      refine gbin (gbin (gbin (gbin (gbin (X _ rfl 0 a rfl) (X _ rfl 1 b rfl) (add_tup S _ _ ?_)) (gtup (gcons (gtup (gcons (glit _) (gcons (gbin (gbi (gcons (X _ rfl 2 c rfl) gnil) (b_len_tup _ _)) (glit (.int 1)) rfl) gnil)) (by show 2 ≤ SZ; decide)) gnil) (by show 1 ≤ SZ; decide)) (add_tup S _ _ ?_)) (X _ rfl 2 c rfl) (add_tup S _ _ ?_)) (gtup (gcons (gtup (gcons (glit _) (gcons (gbi (gcons (X _ rfl 3 e rfl) gnil) (b_len_tup _ _)) gnil)) (by show 2 ≤ SZ; decide)) gnil) (by show 1 ≤ SZ; decide)) (add_tup S _ _ ?_)) (X _ rfl 3 e rfl) (add_tup S _ _ ?_)
      all_goals (simp only [List.length_append, List.length_map, List.length_cons, List.length_nil]; unfold SZ; omega)
end K12

set_option linter.all false
set_option autoImplicit false
set_option maxRecDepth 100000
set_option maxHeartbeats 4000000
namespace K12
open MK MK.A
/-! ### how deep the pile is -/
def lay : Wd → Int
  | .text _ => 1
  | .need _ => 1
  | .join => -1
  | .same _ => -2
  | .leap _ => -1
  | _ => 0
def req : Wd → Int
  | .text _ => 0
  | .need _ => 0
  | .join => 2
  | .same _ => 2
  | _ => 1
def dl (ws : List Wd) (p : Nat) : Int := ((ws.take p).map lay).sum
def tot (ws : List Wd) : Int := (ws.map lay).sum
theorem dl_zero (ws : List Wd) : dl ws 0 = 0 := by simp [dl]
theorem dl_all (ws : List Wd) : dl ws ws.length = tot ws := by simp [dl, tot]
theorem dl_succ {ws : List Wd} {p : Nat} {w : Wd} (h : ws[p]? = some w) : dl ws (p + 1) = dl ws p + lay w := by
  unfold dl
  rw [List.take_add_one, h]
  simp
theorem dl_mid (pre mid post : List Wd) (q : Nat) (h : q ≤ mid.length) : dl (pre ++ mid ++ post) (pre.length + q) = tot pre + dl mid q := by
  unfold dl tot
  rw [List.append_assoc, List.take_append, List.take_of_length_le (show pre.length ≤ pre.length + q by omega), Nat.add_sub_cancel_left, List.take_append_of_le_length h, List.map_append, List.sum_append]
theorem tot_app (a b : List Wd) : tot (a ++ b) = tot a + tot b := by simp [tot]
def JAt (ws : List Wd) (p : Nat) : Prop := (∀ n, ws[p]? = some (.same n) → p + 1 + n ≤ ws.length ∧ dl ws (p + 1 + n) = dl ws p - 2) ∧ ∀ n, ws[p]? = some (.leap n) → p + 1 + n ≤ ws.length ∧ dl ws (p + 1 + n) = dl ws p
def Jmp (ws : List Wd) : Prop := ∀ p, JAt ws p
def Enh (k : Int) (ws : List Wd) : Prop := ∀ p w, ws[p]? = some w → req w ≤ k + dl ws p
theorem mid_at (pre mid post : List Wd) (q : Nat) (h : q < mid.length) : (pre ++ mid ++ post)[pre.length + q]? = mid[q]? := by
  rw [List.append_assoc, List.getElem?_append_right (by omega), Nat.add_sub_cancel_left, List.getElem?_append_left h]
theorem jat_mid {mid : List Wd} (pre post : List Wd) (J : Jmp mid) (q : Nat) (h : q < mid.length) : JAt (pre ++ mid ++ post) (pre.length + q) := by
  constructor
  · intro n hn
    rw [mid_at pre mid post q h] at hn
    obtain ⟨h1, h2⟩ := (J q).1 n hn
    refine ⟨by simp only [List.length_append]; omega, ?_⟩
    rw [show pre.length + q + 1 + n = pre.length + (q + 1 + n) from by omega, dl_mid _ _ _ _ h1, dl_mid _ _ _ _ (by omega), h2]
    omega
  · intro n hn
    rw [mid_at pre mid post q h] at hn
    obtain ⟨h1, h2⟩ := (J q).2 n hn
    refine ⟨by simp only [List.length_append]; omega, ?_⟩
    rw [show pre.length + q + 1 + n = pre.length + (q + 1 + n) from by omega, dl_mid _ _ _ _ h1, dl_mid _ _ _ _ (by omega), h2]
theorem enh_mid {mid : List Wd} {k : Int} (pre post : List Wd) (E : Enh (k + tot pre) mid) (q : Nat) (w : Wd) (h : q < mid.length) (hw : (pre ++ mid ++ post)[pre.length + q]? = some w) : req w ≤ k + dl (pre ++ mid ++ post) (pre.length + q) := by
  rw [mid_at pre mid post q h] at hw
  have := E q w hw
  rw [dl_mid _ _ _ _ (by omega)]
  omega
theorem jmp_app {a b : List Wd} (ha : Jmp a) (hb : Jmp b) : Jmp (a ++ b) := by
  intro p
  by_cases h : p < a.length
  · have := jat_mid [] b ha p h
    simpa using this
  · by_cases h2 : p < a.length + b.length
    · have := jat_mid a [] hb (p - a.length) (by omega)
      rw [show a.length + (p - a.length) = p from by omega, List.append_nil] at this
      exact this
    · have : (a ++ b)[p]? = none := List.getElem?_eq_none (by rw [List.length_append]; omega)
      exact ⟨fun n hn => by (rw [this] at hn; cases hn), fun n hn => by (rw [this] at hn; cases hn)⟩
theorem enh_app {k : Int} {a b : List Wd} (ha : Enh k a) (hb : Enh (k + tot a) b) : Enh k (a ++ b) := by
  intro p w hw
  by_cases h : p < a.length
  · have := enh_mid (k := k) [] b (mid := a) (by simpa [tot] using ha) p w h (by simpa using hw)
    simpa using this
  · have h2 : p < (a ++ b).length := (List.getElem?_eq_some_iff.mp hw).1
    rw [List.length_append] at h2
    have := enh_mid (k := k) a [] hb (p - a.length) w (by omega) (by rw [show a.length + (p - a.length) = p from by omega, List.append_nil]; exact hw)
    rw [show a.length + (p - a.length) = p from by omega, List.append_nil] at this
    exact this
theorem jmp_one {w : Wd} (h1 : ∀ n, w ≠ .same n) (h2 : ∀ n, w ≠ .leap n) : Jmp [w] := by
  intro p
  cases p with
  | zero => exact ⟨fun n hn => absurd (by simpa using hn) (h1 n), fun n hn => absurd (by simpa using hn) (h2 n)⟩
  | succ p => exact ⟨fun n hn => by simp at hn, fun n hn => by simp at hn⟩
theorem enh_one {k : Int} {w : Wd} (h : req w ≤ k) : Enh k [w] := by
  intro p v hv
  cases p with
  | zero => simp at hv; subst hv; rw [dl_zero]; omega
  | succ p => simp at hv
theorem Ws_tot (d : D) : tot (Ws d) = 1 := by
  have one : ∀ w : Wd, tot [w] = lay w := fun w => by simp [tot]
  induction d with
  | text s => rfl
  | need s => rfl
  | join a b ha hb => simp only [Ws, tot_app, ha, hb, one]; rfl
  | named a ha => simp only [Ws, tot_app, ha, one]; rfl
  | back a ha => simp only [Ws, tot_app, ha, one]; rfl
  | sort a ha => simp only [Ws, tot_app, ha, one]; rfl
  | head k a ha => simp only [Ws, tot_app, ha, one]; rfl
  | swap x y a ha => simp only [Ws, tot_app, ha, one]; rfl
  | same a b c d ha hb hc hd => simp only [Ws, tot_app, ha, hb, hc, hd, one]; rfl
theorem jmp_block {c e : List Wd} (hc : Jmp c) (he : Jmp e) (tc : tot c = 1) (te : tot e = 1) : Jmp ([.same (c.length + 1)] ++ c ++ [Wd.leap e.length] ++ e) := by
  have hl : ([Wd.same (c.length + 1)] ++ c ++ [Wd.leap e.length] ++ e).length = c.length + e.length + 2 := by simp only [List.length_append, List.length_cons, List.length_nil]; omega
  have one : ∀ w : Wd, tot [w] = lay w := fun w => by simp [tot]
  have d0 : dl ([Wd.same (c.length + 1)] ++ c ++ [Wd.leap e.length] ++ e) (c.length + 2) = -2 := by
    have := dl_mid ([Wd.same (c.length + 1)] ++ c ++ [Wd.leap e.length]) e [] 0 (by omega)
    rw [List.append_nil, dl_zero] at this
    simp only [List.length_append, List.length_cons, List.length_nil, tot_app, one, tc, lay] at this
    rw [show c.length + 2 = 0 + 1 + c.length + (0 + 1) + 0 from by omega, this]; rfl
  have d1 : dl ([Wd.same (c.length + 1)] ++ c ++ [Wd.leap e.length] ++ e) (c.length + 1) = -1 := by
    have := dl_mid ([Wd.same (c.length + 1)]) c ([.leap e.length] ++ e) c.length (by omega)
    rw [dl_all, tc, one] at this
    simp only [List.length_cons, List.length_nil, lay] at this
    rw [← List.append_assoc] at this
    have e0 : 0 + 1 + c.length = c.length + 1 := by omega
    rw [e0] at this
    rw [this]; rfl
  have d2 : dl ([Wd.same (c.length + 1)] ++ c ++ [Wd.leap e.length] ++ e) (c.length + 2 + e.length) = -1 := by
    have := dl_all ([Wd.same (c.length + 1)] ++ c ++ [Wd.leap e.length] ++ e)
    rw [hl] at this
    rw [show c.length + 2 + e.length = c.length + e.length + 2 from by omega, this]
    simp only [tot_app, one, tc, te, lay]; rfl
  intro p
  by_cases h0 : p = 0
  · subst h0
    refine ⟨fun n hn => ?_, fun n hn => by simp at hn⟩
    have : c.length + 1 = n := by simpa using hn
    subst this
    rw [hl, show 0 + 1 + (c.length + 1) = c.length + 2 from by omega, d0, dl_zero]
    exact ⟨by omega, rfl⟩
  by_cases h1 : p < 1 + c.length
  · have := jat_mid [Wd.same (c.length + 1)] ([.leap e.length] ++ e) hc (p - 1) (by omega)
    rw [← List.append_assoc] at this
    simp only [List.length_cons, List.length_nil] at this
    rw [show 0 + 1 + (p - 1) = p from by omega] at this
    exact this
  by_cases h2 : p = 1 + c.length
  · subst h2
    have hx : ([Wd.same (c.length + 1)] ++ c ++ [Wd.leap e.length] ++ e)[1 + c.length]? = some (.leap e.length) := by
      rw [List.getElem?_append_left (by simp only [List.length_append, List.length_cons, List.length_nil]; omega), List.getElem?_append_right (by simp only [List.length_append, List.length_cons, List.length_nil]; omega)]
      have : 1 + c.length - ([Wd.same (c.length + 1)] ++ c).length = 0 := by simp only [List.length_append, List.length_cons, List.length_nil]; omega
      rw [this]; rfl
    refine ⟨fun n hn => by (rw [hx] at hn; cases hn), fun n hn => ?_⟩
    rw [hx] at hn
    cases hn
    rw [hl, show 1 + c.length + 1 + e.length = c.length + 2 + e.length from by omega, d2, show 1 + c.length = c.length + 1 from by omega, d1]
    exact ⟨by omega, rfl⟩
  by_cases h3 : p < c.length + e.length + 2
  · have := jat_mid ([Wd.same (c.length + 1)] ++ c ++ [Wd.leap e.length]) [] he (p - (c.length + 2)) (by omega)
    rw [List.append_nil] at this
    simp only [List.length_append, List.length_cons, List.length_nil] at this
    rw [show 0 + 1 + c.length + (0 + 1) + (p - (c.length + 2)) = p from by omega] at this
    exact this
  · have : ([Wd.same (c.length + 1)] ++ c ++ [Wd.leap e.length] ++ e)[p]? = none := List.getElem?_eq_none (by rw [hl]; omega)
    exact ⟨fun n hn => by (rw [this] at hn; cases hn), fun n hn => by (rw [this] at hn; cases hn)⟩
theorem Ws_jmp (d : D) : Jmp (Ws d) := by
  induction d with
  | text s => exact jmp_one (fun n h => by cases h) (fun n h => by cases h)
  | need s => exact jmp_one (fun n h => by cases h) (fun n h => by cases h)
  | join a b ha hb => exact jmp_app (jmp_app ha hb) (jmp_one (fun n h => by cases h) (fun n h => by cases h))
  | named a ha => exact jmp_app ha (jmp_one (fun n h => by cases h) (fun n h => by cases h))
  | back a ha => exact jmp_app ha (jmp_one (fun n h => by cases h) (fun n h => by cases h))
  | sort a ha => exact jmp_app ha (jmp_one (fun n h => by cases h) (fun n h => by cases h))
  | head k a ha => exact jmp_app ha (jmp_one (fun n h => by cases h) (fun n h => by cases h))
  | swap x y a ha => exact jmp_app ha (jmp_one (fun n h => by cases h) (fun n h => by cases h))
  | same a b c d ha hb hc hd => exact jmp_app (jmp_app ha hb) (jmp_block hc hd (Ws_tot c) (Ws_tot d))
theorem Ws_enh (d : D) : ∀ k : Int, 0 ≤ k → Enh k (Ws d) := by
  have one : ∀ w : Wd, tot [w] = lay w := fun w => by simp [tot]
  induction d with
  | text s => intro k hk; exact enh_one (by simp only [req]; omega)
  | need s => intro k hk; exact enh_one (by simp only [req]; omega)
  | join a b ha hb => intro k hk; exact enh_app (enh_app (ha k hk) (hb _ (by rw [Ws_tot]; omega))) (enh_one (by simp only [tot_app, Ws_tot, req]; omega))
  | named a ha => intro k hk; exact enh_app (ha k hk) (enh_one (by simp only [Ws_tot, req]; omega))
  | back a ha => intro k hk; exact enh_app (ha k hk) (enh_one (by simp only [Ws_tot, req]; omega))
  | sort a ha => intro k hk; exact enh_app (ha k hk) (enh_one (by simp only [Ws_tot, req]; omega))
  | head j a ha => intro k hk; exact enh_app (ha k hk) (enh_one (by simp only [Ws_tot, req]; omega))
  | swap x y a ha => intro k hk; exact enh_app (ha k hk) (enh_one (by simp only [Ws_tot, req]; omega))
  | same a b c d ha hb hc hd =>
    intro k hk
    refine enh_app (enh_app (ha k hk) (hb _ (by rw [Ws_tot]; omega))) ?_
    refine enh_app (enh_app (enh_app (enh_one (by simp only [tot_app, Ws_tot, req]; omega)) (hc _ (by simp only [tot_app, Ws_tot, one, lay]; omega))) (enh_one (by simp only [tot_app, Ws_tot, one, lay, req]; omega))) (hd _ (by simp only [tot_app, Ws_tot, one, lay]; omega))
theorem dl_nonneg (d : D) : ∀ p, p ≤ (Ws d).length → 0 ≤ dl (Ws d) p := by
  intro p
  induction p with
  | zero => intro _; rw [dl_zero]; exact Int.le_refl _
  | succ p ih =>
    intro h
    have hw : (Ws d)[p]? = some (Ws d)[p] := List.getElem?_eq_getElem (by omega)
    rw [dl_succ hw]
    have := Ws_enh d 0 (Int.le_refl _) p _ hw
    have h2 := ih (by omega)
    revert this
    generalize (Ws d)[p] = w
    cases w <;> simp only [req, lay] <;> omega
theorem dl_end (d : D) : dl (Ws d) (Ws d).length = 1 := by rw [dl_all, Ws_tot]
theorem dl_le (ws : List Wd) : ∀ p, p ≤ ws.length → dl ws p ≤ p := by
  intro p
  induction p with
  | zero => intro _; rw [dl_zero]; exact Int.le_refl _
  | succ p ih =>
    intro h
    have hw : ws[p]? = some ws[p] := List.getElem?_eq_getElem (by omega)
    rw [dl_succ hw]
    have h2 := ih (by omega)
    generalize ws[p] = w
    cases w <;> simp only [lay] <;> omega
end K12

set_option linter.all false
set_option autoImplicit false
set_option maxRecDepth 100000
set_option maxHeartbeats 4000000
namespace K12
open MK MK.A
/-! ### dicts of places -/
def Kp (ps : List Nat) : List PV := ps.map fun p => .int ((p : Nat) : Int)
def Vp (ws : List Wd) (ps : List Nat) : List PV := ps.map fun p => .int (dl ws p)
def ins (p : Nat) (ps : List Nat) : List Nat := if p ∈ ps then ps else ps ++ [p]
theorem mem_ins {p q : Nat} {ps : List Nat} : q ∈ ins p ps ↔ q = p ∨ q ∈ ps := by
  unfold ins
  split
  · rename_i h
    exact ⟨.inr, fun e => e.elim (fun e => e ▸ h) id⟩
  · rw [List.mem_append, List.mem_singleton]; exact Or.comm
theorem nodup_ins {p : Nat} {ps : List Nat} (h : ps.Nodup) : (ins p ps).Nodup := by
  unfold ins
  split
  · exact h
  · rename_i hp
    rw [List.nodup_append]
    exact ⟨h, by simp, fun a ha b hb => by rw [List.mem_singleton] at hb; subst hb; intro e; subst e; exact hp ha⟩
theorem look_ps (ws : List Wd) (i : Int) : ∀ ps : List Nat, lookD (.int i) (Kp ps) (Vp ws ps) = if 0 ≤ i ∧ i.toNat ∈ ps then some (.int (dl ws i.toNat)) else none
  | [] => by simp [Kp, Vp, lookD]
  | p :: ps => by
    show (if PV.int ((p : Nat) : Int) = .int i then some (PV.int (dl ws p)) else lookD (.int i) (Kp ps) (Vp ws ps)) = _
    by_cases h : (p : Int) = i
    · subst h
      rw [if_pos rfl, if_pos ⟨by omega, by simp⟩]
      simp
    · rw [if_neg (fun e => h (by injection e)), look_ps ws i ps]
      by_cases h2 : 0 ≤ i ∧ i.toNat ∈ ps
      · rw [if_pos h2, if_pos ⟨h2.1, List.mem_cons_of_mem _ h2.2⟩]
      · rw [if_neg h2, if_neg]
        rintro ⟨h3, h4⟩
        rcases List.mem_cons.mp h4 with e | e
        · exact h (by omega)
        · exact h2 ⟨h3, e⟩
theorem any_ps (p : Nat) : ∀ ps : List Nat, ((Kp ps).any fun j => decide (j = PV.int (p : Int))) = decide (p ∈ ps)
  | [] => rfl
  | q :: ps => by
    show (decide (PV.int ((q : Nat) : Int) = .int (p : Int)) || ((Kp ps).any _)) = _
    rw [any_ps p ps]
    by_cases h : q = p
    · subst h; simp
    · have : ¬ (PV.int ((q : Nat) : Int) = .int (p : Int)) := fun e => h (by injection e with e; omega)
      rw [decide_eq_false this, Bool.false_or]
      exact decide_eq_decide.mpr ⟨List.mem_cons_of_mem _, fun e => (List.mem_cons.mp e).elim (fun e => absurd e.symm h) id⟩
theorem set_ps (ws : List Wd) (p : Nat) : ∀ ps : List Nat, setD (.int (p : Int)) (.int (dl ws p)) (Kp ps) (Vp ws ps) = Vp ws ps
  | [] => rfl
  | q :: ps => by
    show (if PV.int ((q : Nat) : Int) = .int (p : Int) then PV.int (dl ws p) else PV.int (dl ws q)) :: setD _ _ (Kp ps) (Vp ws ps) = _
    rw [set_ps ws p ps]
    by_cases h : q = p
    · subst h; rw [if_pos rfl]; rfl
    · rw [if_neg (fun e => h (by injection e with e; omega))]; rfl
theorem put_ps (ws : List Wd) (p : Nat) (ps : List Nat) : putD (.int (p : Int)) (.int (dl ws p)) (Kp ps) (Vp ws ps) = (Kp (ins p ps), Vp ws (ins p ps)) := by
  unfold putD ins
  rw [any_ps]
  by_cases h : p ∈ ps
  · rw [if_pos (decide_eq_true h), if_pos h, set_ps]
  · rw [if_neg (by simpa using h), if_neg h]
    simp [Kp, Vp]
section
variable {S0 X : Store} {ws : List Wd} {ps : List Nat}
abbrev dic (ws : List Wd) (ps : List Nat) : Cell := .dic (Kp ps) (Vp ws ps)
theorem at_dic : (S0 ++ [dic ws ps] ++ X)[S0.length]? = some (dic ws ps) := by
  rw [List.append_assoc, List.getElem?_append_right (Nat.le_refl _), Nat.sub_self]; rfl
theorem get_ps (i : Int) : dicGet (S0 ++ [dic ws ps] ++ X) (.ref S0.length) (.int i) = some (if 0 ≤ i ∧ i.toNat ∈ ps then some (.int (dl ws i.toNat)) else none) := by
  have e : dicOf (S0 ++ [dic ws ps] ++ X) (.ref S0.length) = some (Kp ps, Vp ws ps) := by
    show (match (S0 ++ [dic ws ps] ++ X)[S0.length]? with | some (.dic ks vs) => some (ks, vs) | _ => none) = _
    rw [at_dic]
  unfold dicGet
  rw [e]
  show some (lookD (.int i) (Kp ps) (Vp ws ps)) = _
  rw [look_ps]
theorem get_in {p : Nat} (h : p ∈ ps) : dicGet (S0 ++ [dic ws ps] ++ X) (.ref S0.length) (.int (p : Int)) = some (some (.int (dl ws p))) := by
  rw [get_ps, if_pos ⟨by omega, by simpa using h⟩]; simp
theorem put_at {p : Nat} {v : Int} (hv : v = dl ws p) (hl : ps.length < SZ) : dicPut (S0 ++ [dic ws ps] ++ X) (.ref S0.length) (.int (p : Int)) (.int v) = some (S0 ++ [dic ws (ins p ps)] ++ X) := by
  subst hv
  show (match (S0 ++ [dic ws ps] ++ X)[S0.length]? with | some (.dic ks vs) => (if isKey (.int (p : Int)) ∧ ks.length < SZ then (let r := putD (.int (p : Int)) (.int (dl ws p)) ks vs; some ((S0 ++ [dic ws ps] ++ X).set S0.length (.dic r.1 r.2))) else none) | _ => none) = _
  rw [at_dic]
  show (if isKey (.int (p : Int)) ∧ (Kp ps).length < SZ then some ((S0 ++ [dic ws ps] ++ X).set S0.length (.dic (putD (.int (p : Int)) (.int (dl ws p)) (Kp ps) (Vp ws ps)).1 (putD (.int (p : Int)) (.int (dl ws p)) (Kp ps) (Vp ws ps)).2)) else none) = _
  rw [if_pos ⟨rfl, by unfold Kp; rw [List.length_map]; exact hl⟩, put_ps, List.append_assoc, List.set_append_right _ _ (Nat.le_refl _), Nat.sub_self, List.append_assoc]
  rfl
end
theorem call_keep {n f : Nat} {vs : List PV} {S S' : Store} {F : Fn} {v : PV} (hF : fns[f]? = some F) (hl : vs.length = F.np) (ht : F.trunc = false) (hg : F.gc = false) (h : evSs (o n) F.body (start F.nl vs) S = .ret v S') : callF fuel fns (n + 1) f vs S = .ok v S' := by
  have e : callF fuel fns (n + 1) f vs S = (match fns[f]? with
    | some F => if vs.length = F.np then cond F.gc (finG S (evSs (o n) F.body (start F.nl vs) S)) (fin F.trunc S (evSs (o n) F.body (start F.nl vs) S)) else .bad
    | none => .bad) := rfl
  rw [e, hF]
  show (if vs.length = F.np then cond F.gc _ (fin F.trunc S (evSs (o n) F.body (start F.nl vs) S)) else Out.bad) = _
  rw [if_pos hl, hg, ht, h]; rfl
/-- a set of places that goes with every word to what comes behind it -/
def Clo (ws : List Wd) (P : Nat → Prop) : Prop := ∀ p w, ws[p]? = some w → P p → (match w with
  | .same n => P (p + 1) ∧ P (p + 1 + n)
  | .leap n => P (p + 1 + n)
  | _ => P (p + 1))
def lay0 : Wd → Int
  | .leap _ => 0
  | w => lay w
theorem lookLays (w : Wd) : lookT w.kind vLAYS = some (lay0 w) := by cases w <;> rfl
theorem w0 {n : Nat} {ρ : Env} {S : Store} {i : Nat} (w : Wd) (h : ρ[i]? = some (some w.enc)) : evE (o n) (.ix (.var i) (.lit (.int 0))) ρ S = .ok (.str w.kind) S := gix (gvar h) (glit _) (i_tup S _ 0 rfl)
/-! ### _depths -/
theorem depths_ok (n : Nat) (d : D) (S : Store) (hc : d.cnt ≤ 1000) : ∃ ps : List Nat, (∀ p, p ∈ ps ↔ p ≤ (Ws d).length) ∧ callF fuel fns (n + 1) 10 [.lst ((Ws d).map Wd.enc)] S = .ok (.ref S.length) (S ++ [dic (Ws d) ps]) := by
  have hl := (Ws_len d).1
  have a1 : evS (o n) (.asg (.nm 1) (.dlit [.lit (.int 0), .lit (.int 0)])) [some (.lst ((Ws d).map Wd.enc)), none, none, none, none] S = .next [some (.lst ((Ws d).map Wd.enc)), some (.ref S.length), none, none, none] (S ++ [dic (Ws d) [0]]) := by
    have : dic (Ws d) [0] = .dic [.int 0] [.int 0] := by simp [dic, Kp, Vp, dl_zero]
    rw [this]
    exact sasg (gdlit (gcons (glit _) (gcons (glit _) gnil)) rfl (by decide)) (by show 1 < 5; decide)
  have key := forL_run (step := turn (o n) (.tp [.nm 2, .nm 3]) [.asg (.nm 4) (.bin .add (.dix (.var 1) (.var 2)) (.gdx vLAYS (.ix (.var 3) (.lit (.int 0))))), .ifs (.cmp .eq (.ix (.var 3) (.lit (.int 0))) (.lit (.str kLeap))) [.dput (.var 1) (.bin .add (.var 2) (.lit (.int 1))) (.bin .sub (.dix (.var 1) (.var 2)) (.lit (.int 1))), .dput (.var 1) (.bin .add (.bin .add (.var 2) (.lit (.int 1))) (.ix (.var 3) (.lit (.int 1)))) (.var 4)] [.dput (.var 1) (.bin .add (.var 2) (.lit (.int 1))) (.var 4)]])
    (fun i ρ S' => ∃ ps r2 r3 r4, S' = S ++ [dic (Ws d) ps] ++ [] ∧ ρ = [some (.lst ((Ws d).map Wd.enc)), some (.ref S.length), r2, r3, r4] ∧ (∀ p ∈ ps, p ≤ (Ws d).length) ∧ (∀ p, p ≤ i → p ∈ ps) ∧ ps.length ≤ 2 * i + 1)
    (enumFrom 0 ((Ws d).map Wd.enc)) 0 [some (.lst ((Ws d).map Wd.enc)), some (.ref S.length), none, none, none] (S ++ [dic (Ws d) [0]])
    ⟨[0], none, none, none, by rw [List.append_nil], rfl, fun p hp => by simp at hp; omega, fun p hp => by simp; omega, by simp⟩ (fun i x ρ S' hx h => by
      obtain ⟨ps, r2, r3, r4, rfl, rfl, hle, hin, hlen⟩ := h
      rw [enumFrom_at, List.getElem?_map] at hx
      obtain ⟨y, hy, rfl⟩ := Option.map_eq_some_iff.mp hx
      obtain ⟨w, hw, rfl⟩ := Option.map_eq_some_iff.mp hy
      have hi : i < (Ws d).length := (List.getElem?_eq_some_iff.mp hw).1
      rw [Nat.zero_add] at hin hlen ⊢
      have hii : i ∈ ps := hin i (Nat.le_refl _)
      rw [turn_tp2 _ _ _ (by show 2 < 5; decide) (by show 3 < 5; decide)]
      have hd := dl_succ hw
      have s1 : evS (o n) (.asg (.nm 4) (.bin .add (.dix (.var 1) (.var 2)) (.gdx vLAYS (.ix (.var 3) (.lit (.int 0)))))) [some (.lst ((Ws d).map Wd.enc)), some (.ref S.length), some (.int (i : Int)), some w.enc, r4] (S ++ [dic (Ws d) ps] ++ []) = .next [some (.lst ((Ws d).map Wd.enc)), some (.ref S.length), some (.int (i : Int)), some w.enc, some (.int (dl (Ws d) i + lay0 w))] (S ++ [dic (Ws d) ps] ++ []) :=
        sasg (gbin (gdix (gvar rfl) (gvar rfl) (get_in hii)) (ggdx (w0 w rfl) (lookLays w)) rfl) (by show 4 < 5; decide)
      have hsz : ps.length < SZ := by unfold SZ; omega
      by_cases hlp : ∃ k, w = .leap k
      · obtain ⟨k, rfl⟩ := hlp
        obtain ⟨j1, j2⟩ := (Ws_jmp d i).2 k hw
        have hin2 : ∀ p, p ≤ i + 1 → p ∈ ins (i + 1 + k) (ins (i + 1) ps) := fun p hp => by
          rw [mem_ins, mem_ins]
          by_cases e : p = i + 1
          · exact .inr (.inl e)
          · exact .inr (.inr (hin p (by omega)))
        refine ⟨_, _, .inl (sseq s1 (sseq (sif_t (gcmp (w0 (.leap k) rfl) (glit _) (c_eq_str _ _ _)) rfl (sseq (sdput (gbin (gdix (gvar rfl) (gvar rfl) (get_in hii)) (glit (.int 1)) rfl) (gvar rfl) (gbin (gvar rfl) (glit (.int 1)) (N.add_nat _ _ 1)) (put_at (p := i + 1) ?_ hsz)) (sseq (sdput (gvar rfl) (gvar rfl) (gbin (gbin (gvar rfl) (glit (.int 1)) (N.add_nat _ _ 1)) (gix (gvar rfl) (glit (.int 1)) (i_tup _ _ 1 rfl)) (N.add_nat _ _ k)) (put_at (p := i + 1 + k) ?_ ?_)) s0))) s0)), ?_⟩
        · rw [hd]; rfl
        · rw [j2]; exact Int.add_zero _
        · have : (ins (i + 1) ps).length ≤ ps.length + 1 := by unfold ins; split <;> simp
          unfold SZ; omega
        · refine ⟨ins (i + 1 + k) (ins (i + 1) ps), some (.int (i : Int)), some (Wd.leap k).enc, _, rfl, rfl, fun p hp => ?_, hin2, ?_⟩
          · rw [mem_ins, mem_ins] at hp
            rcases hp with rfl | rfl | hp
            · exact j1
            · omega
            · exact hle p hp
          · have e1 : ∀ (q : Nat) (qs : List Nat), (ins q qs).length ≤ qs.length + 1 := fun q qs => by unfold ins; split <;> simp
            have := e1 (i + 1 + k) (ins (i + 1) ps)
            have := e1 (i + 1) ps
            omega
      · have hk : (w.kind == kLeap) = false := by cases w <;> first | rfl | exact absurd ⟨_, rfl⟩ hlp
        have hm : lay0 w = lay w := by cases w <;> first | rfl | exact absurd ⟨_, rfl⟩ hlp
        refine ⟨_, _, .inl (sseq s1 (sseq (sif_f (gcmp (w0 w rfl) (glit _) (c_eq_str _ _ _)) hk (sseq (sdput (gvar rfl) (gvar rfl) (gbin (gvar rfl) (glit (.int 1)) (N.add_nat _ _ 1)) (put_at (p := i + 1) ?_ hsz)) s0)) s0)), ?_⟩
        · rw [hd, hm]
        · refine ⟨ins (i + 1) ps, some (.int (i : Int)), some w.enc, _, rfl, rfl, fun p hp => ?_, fun p hp => ?_, ?_⟩
          · rw [mem_ins] at hp
            rcases hp with rfl | hp
            · omega
            · exact hle p hp
          · rw [mem_ins]
            by_cases e : p = i + 1
            · exact .inl e
            · exact .inr (hin p (by omega))
          · have : (ins (i + 1) ps).length ≤ ps.length + 1 := by unfold ins; split <;> simp
            omega)
  obtain ⟨ρ', S', e1, ps, r2, r3, r4, rfl, rfl, hle, hin, -⟩ := key
  rw [enumFrom_length, List.length_map, Nat.zero_add] at hin
  refine ⟨ps, fun p => ⟨hle p, hin p⟩, ?_⟩
  rw [List.append_nil] at e1
  refine call_keep (F := f__depths) rfl rfl rfl rfl (sseq a1 (sseq (ρ' := [some (.lst ((Ws d).map Wd.enc)), some (.ref S.length), r2, r3, r4]) ?_ (sret (gvar rfl))))
  rw [evS_for, evIt_enum, gvar (i := 0) rfl, Out.bind_ok, wk_lst, Option.bind_some]
  show (lift _ (some (enumFrom 0 ((Ws d).map Wd.enc), none))).toS _ _ = _
  rw [lift_some, Out.toS_ok, forK, forW_free rfl]
  exact e1
end K12

set_option linter.all false
set_option autoImplicit false
set_option maxRecDepth 100000
set_option maxHeartbeats 4000000
namespace K12
open MK MK.A
theorem nodup_len : ∀ (n : Nat) (l : List Nat), l.Nodup → (∀ x ∈ l, x < n) → l.length ≤ n
  | 0, l, _, h => by cases l with | nil => exact Nat.le_refl _ | cons x l => exact absurd (h x (by simp)) (by omega)
  | n + 1, l, nd, h => by
    by_cases hn : n ∈ l
    · have h1 := nodup_len n (l.erase n) (nd.erase n) fun x hx => by
        have h2 := h x (List.mem_of_mem_erase hx)
        have h3 : x ≠ n := fun e => (nd.not_mem_erase) (e ▸ hx)
        omega
      rw [List.length_erase_of_mem hn] at h1
      omega
    · have := nodup_len n l nd fun x hx => by
        have h2 := h x hx
        have h3 : x ≠ n := fun e => hn (e ▸ hx)
        omega
      omega
/-! ### going along the words one comes everywhere -/
def Cov (ws : List Wd) (P : Nat → Prop) (seg : List Wd) : Prop := ∀ pre post, ws = pre ++ seg ++ post → P pre.length → ∀ i, i ≤ seg.length → P (pre.length + i)
theorem cov_app {ws a b : List Wd} {P : Nat → Prop} (ha : Cov ws P a) (hb : Cov ws P b) : Cov ws P (a ++ b) := by
  intro pre post e h0 i hi
  have h1 := ha pre (b ++ post) (by rw [e]; simp) h0
  by_cases h : i ≤ a.length
  · exact h1 i h
  · have := hb (pre ++ a) post (by rw [e]; simp) (by rw [List.length_append]; exact h1 a.length (Nat.le_refl _)) (i - a.length) (by rw [List.length_append] at hi; omega)
    rw [List.length_append] at this
    rw [show pre.length + i = pre.length + a.length + (i - a.length) from by omega]
    exact this
theorem cov_one {ws : List Wd} {P : Nat → Prop} (hC : Clo ws P) {w : Wd} (h1 : ∀ n, w ≠ .same n) (h2 : ∀ n, w ≠ .leap n) : Cov ws P [w] := by
  intro pre post e h0 i hi
  have hw : ws[pre.length]? = some w := by rw [e, List.append_assoc, List.getElem?_append_right (Nat.le_refl _), Nat.sub_self]; rfl
  cases i with
  | zero => exact h0
  | succ i =>
    have : i = 0 := by simp at hi; omega
    subst this
    have := hC _ w hw h0
    cases w <;> first | exact this | exact absurd rfl (h1 _) | exact absurd rfl (h2 _)
theorem cov_all {ws : List Wd} {P : Nat → Prop} (hC : Clo ws P) : ∀ d : D, Cov ws P (Ws d) := by
  intro d
  induction d with
  | text s => exact cov_one hC (fun n h => by cases h) (fun n h => by cases h)
  | need s => exact cov_one hC (fun n h => by cases h) (fun n h => by cases h)
  | join a b ha hb => exact cov_app (cov_app ha hb) (cov_one hC (fun n h => by cases h) (fun n h => by cases h))
  | named a ha => exact cov_app ha (cov_one hC (fun n h => by cases h) (fun n h => by cases h))
  | back a ha => exact cov_app ha (cov_one hC (fun n h => by cases h) (fun n h => by cases h))
  | sort a ha => exact cov_app ha (cov_one hC (fun n h => by cases h) (fun n h => by cases h))
  | head k a ha => exact cov_app ha (cov_one hC (fun n h => by cases h) (fun n h => by cases h))
  | swap x y a ha => exact cov_app ha (cov_one hC (fun n h => by cases h) (fun n h => by cases h))
  | same a b c d ha hb hc hd =>
    refine cov_app (cov_app ha hb) ?_
    intro pre post e h0 i hi
    have hw : ws[pre.length]? = some (.same ((Ws c).length + 1)) := by
      rw [e]
      simp only [List.append_assoc]
      rw [List.getElem?_append_right (Nat.le_refl _), Nat.sub_self]; rfl
    obtain ⟨p1, p2⟩ := hC _ _ hw h0
    have hcc := hc (pre ++ [.same ((Ws c).length + 1)]) ([.leap (Ws d).length] ++ Ws d ++ post) (by rw [e]; simp) (by rw [List.length_append]; exact p1)
    have hdd := hd (pre ++ [.same ((Ws c).length + 1)] ++ Ws c ++ [.leap (Ws d).length]) post (by rw [e]; simp) (by
      simp only [List.length_append, List.length_cons, List.length_nil]
      rw [show pre.length + (0 + 1) + (Ws c).length + (0 + 1) = pre.length + 1 + ((Ws c).length + 1) from by omega]
      exact p2)
    simp only [List.length_append, List.length_cons, List.length_nil] at hi hcc hdd
    by_cases h1 : i = 0
    · subst h1; exact h0
    · by_cases h2 : i ≤ (Ws c).length + 1
      · have := hcc (i - 1) (by omega)
        rwa [show pre.length + (0 + 1) + (i - 1) = pre.length + i from by omega] at this
      · have := hdd (i - ((Ws c).length + 2)) (by omega)
        rwa [show pre.length + (0 + 1) + (Ws c).length + (0 + 1) + (i - ((Ws c).length + 2)) = pre.length + i from by omega] at this
/-! ### the law's loop -/
def Qs (ws : List Wd) (qs : List Nat) : List PV := qs.map fun p => .tup [.int ((p : Nat) : Int), .int (dl ws p)]
theorem i_last (S : Store) (xs : List PV) (x : PV) : evIx S (.lst (xs ++ [x])) (.int (-1)) = some x := by
  show ixAt (xs ++ [x]) (-1) = _
  unfold ixAt
  rw [if_neg (by decide), if_pos (by rw [List.length_append]; show -((xs.length + 1 : Nat) : Int) ≤ -1; omega)]
  rw [show (-1 + ((xs ++ [x]).length : Int)).toNat = xs.length from by rw [List.length_append]; show (-1 + ((xs.length + 1 : Nat) : Int)).toNat = _; omega]
  simp
theorem s_init (S : Store) (xs : List PV) (x : PV) : evSl S (.lst (xs ++ [x])) none (some (-1)) = some (.lst xs) := by
  show (some (xs ++ [x])).map (fun ys => PV.lst (cut ys none (some (-1)))) = _
  rw [Option.map_some]
  congr 2
  have : (-1 + ((xs ++ [x]).length : Int)).toNat = xs.length := by rw [List.length_append]; show (-1 + ((xs.length + 1 : Nat) : Int)).toNat = _; omega
  show ((xs ++ [x]).drop 0).take ((-1 + ((xs ++ [x]).length : Int)).toNat - 0) = xs
  rw [this]
  simp
theorem wh_next {test : Env → Store → Out PV} {body : Env → Store → SOut} {k : Nat} {ρ ρ' : Env} {S S1 S' : Store} (h : test ρ S = .ok (.bl true) S1) (hb : body ρ S1 = .next ρ' S') : whileL test body (k + 1) ρ S = whileL test body k ρ' S' := by
  conv => lhs; unfold whileL
  rw [h, Out.toS_ok]
  simp only [hb]
theorem wh_end {test : Env → Store → Out PV} {body : Env → Store → SOut} {k : Nat} {ρ : Env} {S S1 : Store} (h : test ρ S = .ok (.bl false) S1) : whileL test body (k + 1) ρ S = .next ρ S1 := by
  conv => lhs; unfold whileL
  rw [h, Out.toS_ok]
theorem wh_ret {test : Env → Store → Out PV} {body : Env → Store → SOut} {k : Nat} {ρ : Env} {S S1 S' : Store} {v : PV} (h : test ρ S = .ok (.bl true) S1) (hb : body ρ S1 = .ret v S') : whileL test body (k + 1) ρ S = .ret v S' := by
  conv => lhs; unfold whileL
  rw [h, Out.toS_ok]
  simp only [hb]
/-- where a word leads -/
def suc (p : Nat) : Wd → List Nat
  | .same n => [p + 1, p + 1 + n]
  | .leap n => [p + 1 + n]
  | _ => [p + 1]
structure LI (ws : List Wd) (ps qs : List Nat) : Prop where
  ple : ∀ p ∈ ps, p ≤ ws.length
  qle : ∀ p ∈ qs, p ≤ ws.length
  nd : ps.Nodup
  go : ∀ p ∈ ps, ∀ w, ws[p]? = some w → ∀ q ∈ suc p w, q ∈ ps ∨ q ∈ qs
  beg : 0 ∈ ps ∨ 0 ∈ qs
def ldT : C := .cmp .gt (.bi .len [.var 2]) (.lit (.int 0))
def ldP : List MK.S := [.asg (.nm 5) (.ix (.var 0) (.var 3)), .ifs (.cmp .eq (.ix (.var 5) (.lit (.int 0))) (.lit (.str kSame))) [.asg (.nm 2) (.bin .add (.var 2) (.lst false [.tup [.bin .add (.var 3) (.lit (.int 1)), .bin .sub (.var 4) (.lit (.int 2))], .tup [.bin .add (.bin .add (.var 3) (.lit (.int 1))) (.ix (.var 5) (.lit (.int 1))), .bin .sub (.var 4) (.lit (.int 2))]]))] [.ifs (.cmp .eq (.ix (.var 5) (.lit (.int 0))) (.lit (.str kLeap))) [.asg (.nm 2) (.bin .add (.var 2) (.lst false [.tup [.bin .add (.bin .add (.var 3) (.lit (.int 1))) (.ix (.var 5) (.lit (.int 1))), .var 4]]))] [.asg (.nm 2) (.bin .add (.var 2) (.lst false [.tup [.bin .add (.var 3) (.lit (.int 1)), .bin .add (.var 4) (.dget2 (.dlit [.lit (.str kText), .lit (.int 1), .lit (.str kNeed), .lit (.int 1), .lit (.str kJoin), .neg (.lit (.int 1))]) (.ix (.var 5) (.lit (.int 0))) (.lit (.int 0)))]]))]]]
def ldB : List MK.S := [.asg (.tp [.nm 3, .nm 4]) (.ix (.var 2) (.neg (.lit (.int 1)))), .asg (.nm 2) (.sl false true (.var 2) (.lit .non) (.neg (.lit (.int 1)))), .ifs (.din true (.var 3) (.var 1)) [.dput (.var 1) (.var 3) (.var 4), .ifs (.cmp .lt (.var 3) (.bi .len [.var 0])) ldP []] []]
theorem ld_body : f__law_depths.body = [.asg (.tp [.nm 1, .nm 2]) (.tup [.dlit [], .lst false [.tup [.lit (.int 0), .lit (.int 0)]]]), .while_ ldT ldB, .ret (.var 1)] := rfl
theorem Qs_snoc (ws : List Wd) (qs : List Nat) (p : Nat) : Qs ws (qs ++ [p]) = Qs ws qs ++ [.tup [.int (p : Int), .int (dl ws p)]] := by simp [Qs]
theorem Qs_len (ws : List Wd) (qs : List Nat) : (Qs ws qs).length = qs.length := by simp [Qs]
/-- cells without places -/
def Flat (S : Store) : Prop := ∀ c ∈ S, ∀ k, Cell.low k c = true
theorem flat_app {A B : Store} (ha : Flat A) (hb : Flat B) : Flat (A ++ B) := fun c hc => by
  rw [List.mem_append] at hc
  exact hc.elim (ha c) (hb c)
theorem flat_one {c : Cell} (h : ∀ k, Cell.low k c = true) : Flat [c] := fun x hx => by
  rw [List.mem_singleton] at hx
  subst hx
  exact h
/-- what a word pushes -/
theorem push_ok (n : Nat) (d : D) (S0 X : Store) (hl : (Ws d).length ≤ 2000) {ps qs : List Nat} {p : Nat} {w : Wd} {r5 : Option PV} (hw : (Ws d)[p]? = some w) (hq : qs.length ≤ 100000) :
    ∃ X', (Flat X → Flat X') ∧ evSs (o n) ldP [some (.tup ((Ws d).map Wd.enc)), some (.ref S0.length), some (.lst (Qs (Ws d) qs)), some (.int (p : Int)), some (.int (dl (Ws d) p)), r5] (S0 ++ [dic (Ws d) ps] ++ X) =
      .next [some (.tup ((Ws d).map Wd.enc)), some (.ref S0.length), some (.lst (Qs (Ws d) (qs ++ suc p w))), some (.int (p : Int)), some (.int (dl (Ws d) p)), some w.enc] (S0 ++ [dic (Ws d) ps] ++ X') := by
  have s1 : evS (o n) (.asg (.nm 5) (.ix (.var 0) (.var 3))) [some (.tup ((Ws d).map Wd.enc)), some (.ref S0.length), some (.lst (Qs (Ws d) qs)), some (.int (p : Int)), some (.int (dl (Ws d) p)), r5] (S0 ++ [dic (Ws d) ps] ++ X) = .next [some (.tup ((Ws d).map Wd.enc)), some (.ref S0.length), some (.lst (Qs (Ws d) qs)), some (.int (p : Int)), some (.int (dl (Ws d) p)), some w.enc] (S0 ++ [dic (Ws d) ps] ++ X) :=
    sasg (gix (gvar rfl) (gvar rfl) (i_tup _ _ p (by rw [List.getElem?_map, hw]; rfl))) (by show 5 < 6; decide)
  have hd := dl_succ hw
  have hJ := Ws_jmp d p
  have hsz : ∀ k : Nat, k ≤ 10 → (Qs (Ws d) qs).length + k ≤ SZ := fun k hk => by rw [Qs_len]; unfold SZ; omega
  have fin : ∀ (vs : List PV) (qq : List Nat), vs = Qs (Ws d) qq → Qs (Ws d) qs ++ vs = Qs (Ws d) (qs ++ qq) := fun vs qq e => by subst e; simp [Qs]
  by_cases c1 : ∃ k, w = .same k
  · obtain ⟨k, rfl⟩ := c1
    obtain ⟨j1, j2⟩ := hJ.1 k hw
    refine ⟨X, id, sseq s1 (sseq (sif_t (gcmp (w0 (.same k) rfl) (glit _) (c_eq_str _ _ _)) rfl (sseq (sasg (v := .lst (Qs (Ws d) (qs ++ suc p (.same k)))) (gbin (gvar rfl) (glst (gcons (gtup (gcons (gbin (gvar rfl) (glit (.int 1)) (N.add_nat _ _ 1)) (gcons (gbin (gvar rfl) (glit (.int 2)) rfl) gnil)) (by show 2 ≤ SZ; decide)) (gcons (gtup (gcons (gbin (gbin (gvar rfl) (glit (.int 1)) (N.add_nat _ _ 1)) (gix (gvar rfl) (glit (.int 1)) (i_tup _ [.str kSame, .int (k : Int)] 1 rfl)) (N.add_nat _ _ k)) (gcons (gbin (gvar rfl) (glit (.int 2)) rfl) gnil)) (by show 2 ≤ SZ; decide)) gnil)) (by show 2 ≤ SZ; decide)) ?_) (by show 2 < 6; decide)) s0)) s0)⟩
    rw [add_lst _ _ _ (hsz 2 (by omega)), fin _ [p + 1, p + 1 + k] (by simp only [Qs, List.map_cons, List.map_nil]; rw [j2, hd]; rfl)]; rfl
  · have n1 : (w.kind == kSame) = false := by cases w <;> first | rfl | exact absurd ⟨_, rfl⟩ c1
    by_cases c2 : ∃ k, w = .leap k
    · obtain ⟨k, rfl⟩ := c2
      obtain ⟨j1, j2⟩ := hJ.2 k hw
      refine ⟨X, id, sseq s1 (sseq (sif_f (gcmp (w0 (.leap k) rfl) (glit _) (c_eq_str _ _ _)) rfl (sseq (sif_t (gcmp (w0 (.leap k) rfl) (glit _) (c_eq_str _ _ _)) rfl (sseq (sasg (v := .lst (Qs (Ws d) (qs ++ suc p (.leap k)))) (gbin (gvar rfl) (glst (gcons (gtup (gcons (gbin (gbin (gvar rfl) (glit (.int 1)) (N.add_nat _ _ 1)) (gix (gvar rfl) (glit (.int 1)) (i_tup _ [.str kLeap, .int (k : Int)] 1 rfl)) (N.add_nat _ _ k)) (gcons (gvar rfl) gnil)) (by show 2 ≤ SZ; decide)) gnil) (by show 1 ≤ SZ; decide)) ?_) (by show 2 < 6; decide)) s0)) s0)) s0)⟩
      rw [add_lst _ _ _ (hsz 1 (by omega)), fin _ [p + 1 + k] (by simp only [Qs, List.map_cons, List.map_nil]; rw [j2])]; rfl
    · have n2 : (w.kind == kLeap) = false := by cases w <;> first | rfl | exact absurd ⟨_, rfl⟩ c2
      have es : suc p w = [p + 1] := by cases w <;> first | rfl | exact absurd ⟨_, rfl⟩ c1 | exact absurd ⟨_, rfl⟩ c2
      have hk : dicGet (S0 ++ [dic (Ws d) ps] ++ X ++ [.dic [.str kText, .str kNeed, .str kJoin] [.int 1, .int 1, .int (-1)]]) (.ref (S0 ++ [dic (Ws d) ps] ++ X).length) (.str w.kind) = some (if lay w = 0 then none else some (.int (lay w))) := by
        unfold dicGet
        have e : dicOf (S0 ++ [dic (Ws d) ps] ++ X ++ [.dic [.str kText, .str kNeed, .str kJoin] [.int 1, .int 1, .int (-1)]]) (.ref (S0 ++ [dic (Ws d) ps] ++ X).length) = some ([.str kText, .str kNeed, .str kJoin], [.int 1, .int 1, .int (-1)]) := by
          show (match (S0 ++ [dic (Ws d) ps] ++ X ++ [Cell.dic [.str kText, .str kNeed, .str kJoin] [.int 1, .int 1, .int (-1)]])[(S0 ++ [dic (Ws d) ps] ++ X).length]? with | some (.dic ks vs) => some (ks, vs) | _ => none) = _
          rw [List.getElem?_append_right (Nat.le_refl _), Nat.sub_self]; rfl
        rw [e]
        cases w <;> first | rfl | exact absurd ⟨_, rfl⟩ c1 | exact absurd ⟨_, rfl⟩ c2
      have hD : isDic (S0 ++ [dic (Ws d) ps] ++ X ++ [.dic [.str kText, .str kNeed, .str kJoin] [.int 1, .int 1, .int (-1)]]) (.ref (S0 ++ [dic (Ws d) ps] ++ X).length) = true := by
        show (match (S0 ++ [dic (Ws d) ps] ++ X ++ [Cell.dic [.str kText, .str kNeed, .str kJoin] [.int 1, .int 1, .int (-1)]])[(S0 ++ [dic (Ws d) ps] ++ X).length]? with | some (.dic ks vs) => some (ks, vs) | _ => none).isSome = _
        rw [List.getElem?_append_right (Nat.le_refl _), Nat.sub_self]; rfl
      have hg : (if lay w = 0 then none else some (PV.int (lay w))).getD (.int 0) = .int (lay w) := by
        by_cases h0 : lay w = 0
        · rw [if_pos h0, h0]; rfl
        · rw [if_neg h0]; rfl
      refine ⟨X ++ [.dic [.str kText, .str kNeed, .str kJoin] [.int 1, .int 1, .int (-1)]], fun hX => flat_app hX (flat_one fun k => rfl), sseq s1 (sseq (sif_f (gcmp (w0 w rfl) (glit _) (c_eq_str _ _ _)) n1 (sseq (sif_f (gcmp (w0 w rfl) (glit _) (c_eq_str _ _ _)) n2 (sseq (sasg (S1 := S0 ++ [dic (Ws d) ps] ++ (X ++ [.dic [.str kText, .str kNeed, .str kJoin] [.int 1, .int 1, .int (-1)]])) (v := .lst (Qs (Ws d) (qs ++ suc p w))) ?_ (by show 2 < 6; decide)) s0)) s0)) s0)⟩
      rw [← List.append_assoc]
      have := gbin (op := .add) (o := o n) (ρ := [some (.tup ((Ws d).map Wd.enc)), some (.ref S0.length), some (.lst (Qs (Ws d) qs)), some (.int (p : Int)), some (.int (dl (Ws d) p)), some w.enc]) (S := S0 ++ [dic (Ws d) ps] ++ X) (gvar (i := 2) rfl) (glst (gcons (gtup (gcons (gbin (op := .add) (gvar (i := 3) rfl) (glit (.int 1)) (N.add_nat _ _ 1)) (gcons (gbin (op := .add) (gvar (i := 4) rfl) (gdget2 (gdlit (ks := [.str kText, .str kNeed, .str kJoin]) (vs := [.int 1, .int 1, .int (-1)]) (es := [.lit (.str kText), .lit (.int 1), .lit (.str kNeed), .lit (.int 1), .lit (.str kJoin), .neg (.lit (.int 1))]) (gcons (glit _) (gcons (glit _) (gcons (glit _) (gcons (glit _) (gcons (glit _) (gcons (gneg (glit _)) gnil)))))) rfl (by decide)) hD (w0 (i := 5) w rfl) (glit (.int 0)) hk) (by rw [hg]; rfl)) gnil)) (by show 2 ≤ SZ; decide)) gnil) (by show 1 ≤ SZ; decide)) (add_lst _ _ _ (hsz 1 (by omega)))
      rw [fin _ [p + 1] (by simp only [Qs, List.map_cons, List.map_nil]; rw [hd])] at this
      rw [es]
      exact this
end K12

set_option linter.all false
set_option autoImplicit false
set_option maxRecDepth 100000
set_option maxHeartbeats 4000000
namespace K12
open MK MK.A
theorem suc_le (d : D) {p : Nat} {w : Wd} (hw : (Ws d)[p]? = some w) : ∀ q ∈ suc p w, q ≤ (Ws d).length := by
  have hp : p < (Ws d).length := (List.getElem?_eq_some_iff.mp hw).1
  have hJ := Ws_jmp d p
  intro q hq
  cases w with
  | same k =>
    obtain ⟨j1, _⟩ := hJ.1 k hw
    simp only [suc, List.mem_cons, List.not_mem_nil, or_false] at hq
    omega
  | leap k =>
    obtain ⟨j1, _⟩ := hJ.2 k hw
    simp only [suc, List.mem_cons, List.not_mem_nil, or_false] at hq
    omega
  | _ =>
    simp only [suc, List.mem_cons, List.not_mem_nil, or_false] at hq
    omega
theorem suc_len (p : Nat) (w : Wd) : (suc p w).length ≤ 2 := by cases w <;> simp [suc]
theorem ld_loop (n : Nat) (d : D) (S0 : Store) (hl : (Ws d).length ≤ 200) : ∀ (k : Nat) (ps qs : List Nat) (X : Store) (r3 r4 r5 : Option PV), k ≤ 100000 → Flat X → LI (Ws d) ps qs → qs.length + 2 * ((Ws d).length + 1 - ps.length) < k →
    ∃ ps' X' r3' r4' r5', Flat X' ∧ whileL (evE (o n) ldT) (evSs (o n) ldB) k [some (.tup ((Ws d).map Wd.enc)), some (.ref S0.length), some (.lst (Qs (Ws d) qs)), r3, r4, r5] (S0 ++ [dic (Ws d) ps] ++ X) = .next [some (.tup ((Ws d).map Wd.enc)), some (.ref S0.length), some (.lst (Qs (Ws d) [])), r3', r4', r5'] (S0 ++ [dic (Ws d) ps'] ++ X') ∧ LI (Ws d) ps' [] := by
  intro k
  induction k with
  | zero => intro ps qs X r3 r4 r5 _ _ _ h; omega
  | succ k ih =>
    intro ps qs X r3 r4 r5 hk1 hX I hk
    have hlen := nodup_len ((Ws d).length + 1) ps I.nd fun x hx => by have := I.ple x hx; omega
    rcases List.eq_nil_or_concat qs with rfl | ⟨qs, p, rfl⟩
    · refine ⟨ps, X, r3, r4, r5, hX, ?_, I⟩
      exact wh_end (gcmp (gbi (gcons (gvar rfl) gnil) (b_len_lst _ _)) (glit _) rfl)
    · rw [List.concat_eq_append] at *
      have ht : evE (o n) ldT [some (.tup ((Ws d).map Wd.enc)), some (.ref S0.length), some (.lst (Qs (Ws d) (qs ++ [p]))), r3, r4, r5] (S0 ++ [dic (Ws d) ps] ++ X) = .ok (.bl true) (S0 ++ [dic (Ws d) ps] ++ X) := by
        have := gcmp (op := .gt) (o := o n) (ρ := [some (.tup ((Ws d).map Wd.enc)), some (.ref S0.length), some (.lst (Qs (Ws d) (qs ++ [p]))), r3, r4, r5]) (S := S0 ++ [dic (Ws d) ps] ++ X) (gbi (gcons (gvar (i := 2) rfl) gnil) (b_len_lst _ _)) (glit (.int 0)) (z := decide ((0 : Int) < ((Qs (Ws d) (qs ++ [p])).length : Int))) rfl
        rwa [decide_eq_true (by rw [Qs_len, List.length_append]; show (0 : Int) < ((qs.length + 1 : Nat) : Int); omega)] at this
      have hp : p ≤ (Ws d).length := I.qle p (by simp)
      have s1 : evS (o n) (.asg (.tp [.nm 3, .nm 4]) (.ix (.var 2) (.neg (.lit (.int 1))))) [some (.tup ((Ws d).map Wd.enc)), some (.ref S0.length), some (.lst (Qs (Ws d) (qs ++ [p]))), r3, r4, r5] (S0 ++ [dic (Ws d) ps] ++ X) = .next [some (.tup ((Ws d).map Wd.enc)), some (.ref S0.length), some (.lst (Qs (Ws d) (qs ++ [p]))), some (.int (p : Int)), some (.int (dl (Ws d) p)), r5] (S0 ++ [dic (Ws d) ps] ++ X) :=
        stp (gix (gvar rfl) (gneg (glit _)) (by rw [Qs_snoc]; exact i_last _ _ _)) rfl
      have s2 : evS (o n) (.asg (.nm 2) (.sl false true (.var 2) (.lit .non) (.neg (.lit (.int 1))))) [some (.tup ((Ws d).map Wd.enc)), some (.ref S0.length), some (.lst (Qs (Ws d) (qs ++ [p]))), some (.int (p : Int)), some (.int (dl (Ws d) p)), r5] (S0 ++ [dic (Ws d) ps] ++ X) = .next [some (.tup ((Ws d).map Wd.enc)), some (.ref S0.length), some (.lst (Qs (Ws d) qs)), some (.int (p : Int)), some (.int (dl (Ws d) p)), r5] (S0 ++ [dic (Ws d) ps] ++ X) :=
        sasg (gslt (gvar rfl) (gneg (glit _)) (by rw [Qs_snoc]; exact s_init _ _ _)) (by show 2 < 6; decide)
      have hd0 : ∀ r : Option PV, dicGet (S0 ++ [dic (Ws d) ps] ++ X) (.ref S0.length) (.int (p : Int)) = some r → evE (o n) (.din true (.var 3) (.var 1)) [some (.tup ((Ws d).map Wd.enc)), some (.ref S0.length), some (.lst (Qs (Ws d) qs)), some (.int (p : Int)), some (.int (dl (Ws d) p)), r5] (S0 ++ [dic (Ws d) ps] ++ X) = .ok (.bl (!r.isSome)) (S0 ++ [dic (Ws d) ps] ++ X) := fun r hr => gdin (gvar (i := 3) rfl) (gvar (i := 1) rfl) hr
      rw [List.length_append] at hk
      by_cases hin : p ∈ ps
      · have hdin := hd0 _ (get_in hin)
        have hb := (show evSs (o n) ldB _ _ = _ from sseq s1 (sseq s2 (sseq (sif_f hdin rfl s0) s0)))
        rw [wh_next ht hb]
        refine ih ps qs X _ _ _ (by omega) hX ⟨I.ple, fun q hq => I.qle q (by simp [hq]), I.nd, fun q hq w hw r hr => ?_, ?_⟩ (by simp at hk; omega)
        · rcases I.go q hq w hw r hr with h | h
          · exact .inl h
          · rw [List.mem_append, List.mem_singleton] at h
            rcases h with h | rfl
            · exact .inr h
            · exact .inl hin
        · rcases I.beg with h | h
          · exact .inl h
          · rw [List.mem_append, List.mem_singleton] at h
            rcases h with h | h
            · exact .inr h
            · exact .inl (h ▸ hin)
      · have hdin := hd0 none (by rw [get_ps, if_neg (fun h => hin (by simpa using h.2))])
        have hlen2 : (ins p ps).length = ps.length + 1 := by unfold ins; rw [if_neg hin, List.length_append]; rfl
        have hlen3 := nodup_len ((Ws d).length + 1) (ins p ps) (nodup_ins I.nd) fun x hx => by
          rw [mem_ins] at hx
          rcases hx with rfl | hx
          · omega
          · have := I.ple x hx; omega
        have hput := put_at (S0 := S0) (X := X) (ws := Ws d) (ps := ps) (p := p) (v := dl (Ws d) p) rfl (by unfold SZ; omega)
        have hqlen : qs.length ≤ 100000 := by simp at hk; omega
        by_cases hend : p < (Ws d).length
        · have hw : (Ws d)[p]? = some (Ws d)[p] := List.getElem?_eq_getElem hend
          obtain ⟨X', hfl, hpush⟩ := push_ok n d S0 X (by omega) (ps := ins p ps) (r5 := r5) hw hqlen
          have hlt := gcmp (op := .lt) (o := o n) (ρ := [some (.tup ((Ws d).map Wd.enc)), some (.ref S0.length), some (.lst (Qs (Ws d) qs)), some (.int (p : Int)), some (.int (dl (Ws d) p)), r5]) (S := S0 ++ [dic (Ws d) (ins p ps)] ++ X) (gvar (i := 3) rfl) (gbi (gcons (gvar (i := 0) rfl) gnil) (b_len_tup _ _)) (z := decide ((p : Int) < (((Ws d).map Wd.enc).length : Int))) rfl
          have hb := (show evSs (o n) ldB _ _ = _ from sseq s1 (sseq s2 (sseq (sif_t hdin rfl (sseq (sdput (gvar rfl) (gvar rfl) (gvar rfl) hput) (sseq (sif_t hlt (decide_eq_true (by rw [List.length_map]; omega)) hpush) s0))) s0)))
          rw [wh_next ht hb]
          have hs2 := suc_len p (Ws d)[p]
          refine ih (ins p ps) (qs ++ suc p (Ws d)[p]) X' _ _ _ (by omega) (hfl hX) ⟨fun x hx => ?_, fun q hq => ?_, nodup_ins I.nd, fun q hq w hw' r hr => ?_, ?_⟩ (by rw [List.length_append, hlen2]; simp at hk; omega)
          · rw [mem_ins] at hx
            rcases hx with rfl | hx
            · exact hp
            · exact I.ple x hx
          · rw [List.mem_append] at hq
            rcases hq with hq | hq
            · exact I.qle q (by simp [hq])
            · exact suc_le d hw q hq
          · rw [mem_ins] at hq
            rw [mem_ins, List.mem_append]
            rcases hq with rfl | hq
            · rw [hw] at hw'
              cases hw'
              exact .inr (.inr hr)
            · rcases I.go q hq w hw' r hr with h | h
              · exact .inl (.inr h)
              · rw [List.mem_append, List.mem_singleton] at h
                rcases h with h | h
                · exact .inr (.inl h)
                · exact .inl (.inl h)
          · rw [mem_ins, List.mem_append]
            rcases I.beg with h | h
            · exact .inl (.inr h)
            · rw [List.mem_append, List.mem_singleton] at h
              rcases h with h | h
              · exact .inr (.inl h)
              · exact .inl (.inl h)
        · have hlt := gcmp (op := .lt) (o := o n) (ρ := [some (.tup ((Ws d).map Wd.enc)), some (.ref S0.length), some (.lst (Qs (Ws d) qs)), some (.int (p : Int)), some (.int (dl (Ws d) p)), r5]) (S := S0 ++ [dic (Ws d) (ins p ps)] ++ X) (gvar (i := 3) rfl) (gbi (gcons (gvar (i := 0) rfl) gnil) (b_len_tup _ _)) (z := decide ((p : Int) < (((Ws d).map Wd.enc).length : Int))) rfl
          have hb := (show evSs (o n) ldB _ _ = _ from sseq s1 (sseq s2 (sseq (sif_t hdin rfl (sseq (sdput (gvar rfl) (gvar rfl) (gvar rfl) hput) (sseq (sif_f hlt (decide_eq_false (by rw [List.length_map]; omega)) s0) s0))) s0)))
          rw [wh_next ht hb]
          refine ih (ins p ps) qs X _ _ _ (by omega) hX ⟨fun x hx => ?_, fun q hq => I.qle q (by simp [hq]), nodup_ins I.nd, fun q hq w hw' r hr => ?_, ?_⟩ (by rw [hlen2]; simp at hk; omega)
          · rw [mem_ins] at hx
            rcases hx with rfl | hx
            · exact hp
            · exact I.ple x hx
          · rw [mem_ins] at hq
            rw [mem_ins]
            rcases hq with rfl | hq
            · exact absurd (List.getElem?_eq_some_iff.mp hw').1 hend
            · rcases I.go q hq w hw' r hr with h | h
              · exact .inl (.inr h)
              · rw [List.mem_append, List.mem_singleton] at h
                rcases h with h | h
                · exact .inr h
                · exact .inl (.inl h)
          · rw [mem_ins]
            rcases I.beg with h | h
            · exact .inl (.inr h)
            · rw [List.mem_append, List.mem_singleton] at h
              rcases h with h | h
              · exact .inr h
              · exact .inl (.inl h)
/-- what the law's dict holds: all places, each once -/
structure All (ws : List Wd) (ps : List Nat) : Prop where
  all : ∀ p, p ∈ ps ↔ p ≤ ws.length
  nd : ps.Nodup
theorem law_depths_ok (n : Nat) (d : D) (S : Store) (hc : d.cnt ≤ 100) : ∃ ps X, All (Ws d) ps ∧ Flat X ∧ callF fuel fns (n + 1) 17 [.tup ((Ws d).map Wd.enc)] S = .ok (.ref S.length) (S ++ [dic (Ws d) ps] ++ X) := by
  have hl := (Ws_len d).1
  have a1 : evS (o n) (.asg (.tp [.nm 1, .nm 2]) (.tup [.dlit [], .lst false [.tup [.lit (.int 0), .lit (.int 0)]]])) (some (.tup ((Ws d).map Wd.enc)) :: List.replicate 5 none) S = .next [some (.tup ((Ws d).map Wd.enc)), some (.ref S.length), some (.lst (Qs (Ws d) [0])), none, none, none] (S ++ [dic (Ws d) []] ++ []) := by
    have e : Qs (Ws d) [0] = [.tup [.int 0, .int 0]] := by simp [Qs, dl_zero]
    rw [e, List.append_nil]
    exact stp (gtup (gcons (gdlit (ks := []) (vs := []) gnil rfl (by decide)) (gcons (glst (gcons (gtup (gcons (glit _) (gcons (glit _) gnil)) (by show 2 ≤ SZ; decide)) gnil) (by show 1 ≤ SZ; decide)) gnil)) (by show 2 ≤ SZ; decide)) rfl
  obtain ⟨ps, X, r3, r4, r5, hX, e, I⟩ := ld_loop n d S (by omega) 1000 [] [0] [] none none none (by decide) (fun c hc => by simp at hc) ⟨fun p h => by simp at h, fun p h => by simp at h; omega, List.nodup_nil, fun p h => by simp at h, .inr (by simp)⟩ (by show 1 + 2 * ((Ws d).length + 1 - 0) < 1000; omega)
  refine ⟨ps, X, ⟨fun p => ⟨I.ple p, fun hp => ?_⟩, I.nd⟩, hX, ?_⟩
  · have hC : Clo (Ws d) (· ∈ ps) := fun p w hw hp => by
      have g := fun q hq => (I.go p hp w hw q hq).resolve_right (by simp)
      cases w with
      | same k => exact ⟨g _ (by simp [suc]), g _ (by simp [suc])⟩
      | leap k => exact g _ (by simp [suc])
      | _ => exact g _ (by simp [suc])
    have := cov_all hC d [] [] (by simp) (I.beg.resolve_right (by simp)) p hp
    simpa using this
  · refine call_keep (F := f__law_depths) rfl rfl rfl rfl ?_
    rw [ld_body]
    refine sseq a1 (sseq (ρ' := [some (.tup ((Ws d).map Wd.enc)), some (.ref S.length), some (.lst (Qs (Ws d) [])), r3, r4, r5]) (S1 := S ++ [dic (Ws d) ps] ++ X) ?_ (sret (gvar rfl)))
    rw [evS_while]
    exact e
theorem intsOf_K : ∀ ps : List Nat, intsOf (Kp ps) = some (ps.map fun p => ((p : Nat) : Int))
  | [] => rfl
  | p :: ps => by
    show (intsOf (Kp ps)).map (((p : Nat) : Int) :: ·) = _
    rw [intsOf_K ps]; rfl
/-- sorted(found) -/
theorem sorted_ok {S0 X : Store} {d : D} {ps : List Nat} (A : All (Ws d) ps) (h60 : (Ws d).length ≤ 60) : evBI (S0 ++ [dic (Ws d) ps] ++ X) .sorted [.ref S0.length] = some (rgL 0 ((((Ws d).length + 1 : Nat)) : Int)) := by
  have e : dicOf (S0 ++ [dic (Ws d) ps] ++ X) (.ref S0.length) = some (Kp ps, Vp (Ws d) ps) := by
    show (match (S0 ++ [dic (Ws d) ps] ++ X)[S0.length]? with | some (.dic ks vs) => some (ks, vs) | _ => none) = _
    rw [at_dic]
  show (match dicOf (S0 ++ [dic (Ws d) ps] ++ X) (.ref S0.length) with
    | some (ks, _) => (intsOf ks).bind fun ns => if ns.length < 64 then some (PV.lst ((srtI ns).map .int)) else none
    | none => _) = _
  rw [e]
  show (intsOf (Kp ps)).bind _ = _
  rw [intsOf_K, Option.bind_some]
  have hlen := nodup_len ((Ws d).length + 1) ps A.nd fun x hx => by have := (A.all x).mp hx; omega
  rw [if_pos (by rw [List.length_map]; omega)]
  have hperm : (List.range ((Ws d).length + 1)).Perm ps := by
    rw [List.perm_ext_iff_of_nodup List.nodup_range A.nd]
    intro x
    rw [List.mem_range, A.all x]
    omega
  have hu := srtI_uniq (ns := ps.map fun p => ((p : Nat) : Int)) (ns' := (List.range ((Ws d).length + 1)).map fun p => ((p : Nat) : Int)) (hperm.map _) (by
    rw [List.pairwise_map]
    exact List.pairwise_lt_range.imp fun h => by omega)
  rw [← hu]
  unfold rgL
  rw [show ((((Ws d).length + 1 : Nat) : Int) - 0).toNat = (Ws d).length + 1 from by omega]
  congr 2
  rw [List.map_map]
  refine List.map_congr_left fun p _ => ?_
  show PV.int ((p : Nat) : Int) = PV.int (0 + ((p : Nat) : Int))
  rw [Int.zero_add]
end K12

set_option linter.all false
set_option autoImplicit false
set_option maxRecDepth 100000
set_option maxHeartbeats 4000000
namespace K12
open MK MK.A
abbrev kForm : List Nat := [102, 111, 114, 109]
abbrev kPlace : List Nat := [112, 108, 97, 99, 101]
abbrev kPile : List Nat := [112, 105, 108, 101]
def FORM : PV := .tup [.str kForm]
/-- what must be found of a half of the deed d -/
def hf (d : D) : PV → PV → PV → PV
  | .int p, .tup pile, .tup needs => if (pile.all (lets 0 40) && (needs.all (lets 1 8) && decide (needs.length ≤ (keysOf needs []).length))) = true then
      (if 0 ≤ p ∧ p.toNat ≤ (Ws d).length then (if (pile.length : Int) = dl (Ws d) p.toNat then .non else .tup [.str kPile, .int (dl (Ws d) p.toNat)]) else .tup [.str kPlace])
    else FORM
  | _, _, _ => FORM
/-- what may stand as a pile, as needs -/
inductive Arg : PV → Prop
  | tup (l : List PV) (h : l.all scal = true) (hl : l.length ≤ 1000) : Arg (.tup l)
  | lst (l : List PV) : Arg (.lst l)
  | non : Arg .non
structure Fine (d : D) : Prop where
  ok : d.ok
  dep : d.dep ≤ 3
  cnt : d.cnt ≤ 29
theorem hf_plain (d : D) (x1 x2 x3 : PV) : (hf d x1 x2 x3).plain 60 = true := by
  unfold hf
  split
  · split
    · split
      · split <;> rfl
      · rfl
    · rfl
  · rfl
theorem vFORM_eq : vFORM = FORM := rfl
theorem allL {n : Nat} {ρ : Env} {S : Store} {i : Nat} {e elt : C} {l : List PV} (p : PV → Bool) (he : evE (o n) e ρ S = .ok (.tup l) S) (hl : l.length ≤ 1000) (hi : i < ρ.length) (hb : ∀ a ∈ l, evE (o n) elt (ρ.set i (some a)) S = .ok (.bl (p a)) S) : evE (o n) (.bi .all [.lc false [i] (.nm i) (.seq e) [] elt]) ρ S = .ok (.bl (l.all p)) S :=
  gall (fun v => v) p (by rw [List.map_id']; exact it_seq he (wk_tup _)) (by unfold SZ; omega) hi hb
theorem keyed {l : List PV} (h : l.all (lets 1 8) = true) : l.all isKey = true := by
  refine List.all_eq_true.mpr fun v hv => ?_
  have := List.all_eq_true.mp h v hv
  cases v <;> first | rfl | cases this
/-! ### half_fault -/
theorem half_ok (k : Nat) (d : D) (S : Store) (F : Fine d) {x1 x2 x3 : PV} (h1 : scal x1 = true) (h2 : Arg x2) (h3 : Arg x3) : callF fuel fns (k + 9) 11 [.tup [d.enc, x1, x2, x3]] S = .ok (hf d x1 x2 x3) S := by
  have hcl := (Ws_len d).1
  have hF := F.cnt
  have d1 := F.dep
  have e0 : ∀ ρ : Env, ρ[0]? = some (some (.tup [d.enc, x1, x2, x3])) → evE (o (k + 8)) (.ix (.var 0) (.lit (.int 0))) ρ S = .ok d.enc S := fun ρ h => gix (gvar h) (glit _) (i_tup S _ 0 rfl)
  have s1 : ∀ a, evS (o (k + 8)) (.ifs (.or [.not (.isi (.var 0) .tuple), .cmp .ne (.bi .len [.var 0]) (.lit (.int 4)), .not (.call 7 [.ix (.var 0) (.lit (.int 0))])]) a []) (some (.tup [d.enc, x1, x2, x3]) :: List.replicate 7 none) S = .next (some (.tup [d.enc, x1, x2, x3]) :: List.replicate 7 none) S := fun a =>
    sif_f (gor_f (x := !true) (gnot (gisi (gvar rfl) rfl)) rfl (gor_f (gcmp (gbi (gcons (gvar rfl) gnil) rfl) (glit _) (c_ne_int _ _ _)) rfl (gor1 (gnot (x := true) (gcall (gcons (e0 _ rfl) gnil) (deed_ok (k + 8) d S F.ok (by omega) (by omega) (by omega))))))) rfl s0
  have s2 : evS (o (k + 8)) (.asg (.tp [.nm 3, .nm 4, .nm 5, .nm 6]) (.var 0)) (some (.tup [d.enc, x1, x2, x3]) :: List.replicate 7 none) S = .next [some (.tup [d.enc, x1, x2, x3]), none, none, some d.enc, some x1, some x2, some x3, none] S := stp (gvar rfl) rfl
  -- no int
  have notInt : (∀ p, x1 ≠ .int p) → callF fuel fns (k + 9) 11 [.tup [d.enc, x1, x2, x3]] S = .ok FORM S := fun hn => by
    refine call_t (F := f_half_fault) rfl rfl rfl rfl (sseq (s1 _) (sseq s2 (send (sif_t (x := true) ?_ rfl (sret (ggl vFORM)))))) rfl
    cases x1 with
    | int p => exact absurd rfl (hn p)
    | non => exact gor_t (x := !false) (gnot (gisi (gvar rfl) rfl)) rfl
    | str s => exact gor_t (x := !false) (gnot (gisi (gvar rfl) rfl)) rfl
    | bl b => exact gor_f (x := !true) (gnot (gisi (gvar rfl) rfl)) rfl (gor1 (gisi (gvar rfl) rfl))
    | _ => cases h1
  cases x1 with
  | int p =>
    have s3 : ∀ a, evS (o (k + 8)) (.ifs (.or [.not (.isi (.var 4) .int), .isi (.var 4) .bool]) a []) [some (.tup [d.enc, .int p, x2, x3]), none, none, some d.enc, some (.int p), some x2, some x3, none] S = .next [some (.tup [d.enc, .int p, x2, x3]), none, none, some d.enc, some (.int p), some x2, some x3, none] S := fun a =>
      sif_f (gor_f (x := !true) (gnot (gisi (gvar rfl) rfl)) rfl (gor1 (gisi (gvar rfl) rfl))) rfl s0
    have notTup : ∀ c : Bool, evE (o (k + 8)) (.or [.not (.isi (.var 5) .tuple), .not (.isi (.var 6) .tuple)]) [some (.tup [d.enc, .int p, x2, x3]), none, none, some d.enc, some (.int p), some x2, some x3, none] S = .ok (.bl true) S → callF fuel fns (k + 9) 11 [.tup [d.enc, .int p, x2, x3]] S = .ok FORM S := fun _ h =>
      call_t (F := f_half_fault) rfl rfl rfl rfl (sseq (s1 _) (sseq s2 (sseq (s3 _) (send (sif_t h rfl (sret (ggl vFORM))))))) rfl
    cases h2 with
    | lst l => exact notTup true (gor_t (x := !false) (gnot (gisi (gvar rfl) rfl)) rfl)
    | non => exact notTup true (gor_t (x := !false) (gnot (gisi (gvar rfl) rfl)) rfl)
    | tup pile hp hpl =>
      cases h3 with
      | lst l => exact notTup true (gor_f (x := !true) (gnot (gisi (gvar rfl) rfl)) rfl (gor1 (gnot (x := false) (gisi (gvar rfl) rfl))))
      | non => exact notTup true (gor_f (x := !true) (gnot (gisi (gvar rfl) rfl)) rfl (gor1 (gnot (x := false) (gisi (gvar rfl) rfl))))
      | tup needs hn hnl =>
        have s4 : ∀ a, evS (o (k + 8)) (.ifs (.or [.not (.isi (.var 5) .tuple), .not (.isi (.var 6) .tuple)]) a []) [some (.tup [d.enc, .int p, .tup pile, .tup needs]), none, none, some d.enc, some (.int p), some (.tup pile), some (.tup needs), none] S = .next [some (.tup [d.enc, .int p, .tup pile, .tup needs]), none, none, some d.enc, some (.int p), some (.tup pile), some (.tup needs), none] S := fun a =>
          sif_f (gor_f (x := !true) (gnot (gisi (gvar rfl) rfl)) rfl (gor1 (gnot (x := true) (gisi (gvar rfl) rfl)))) rfl s0
        have hE : ∀ X, X = [some (.tup [d.enc, .int p, .tup pile, .tup needs]), none, none, some d.enc, some (.int p), some (.tup pile), some (.tup needs), none] → evE (o (k + 8)) (.bi .all [.lc false [7] (.nm 7) (.seq (.var 5)) [] (.call 3 [.var 7])]) X S = .ok (.bl (pile.all (lets 0 40))) S := fun X hX => by
          subst hX
          exact allL (lets 0 40) (gvar rfl) hpl (by show 7 < 8; decide) fun a ha => gcall (gcons (gvar rfl) gnil) (cont_ok (k + 6) S (List.all_eq_true.mp hp a ha))
        have hE2 : evE (o (k + 8)) (.bi .all [.lc false [7] (.nm 7) (.seq (.var 6)) [] (.call 2 [.var 7])]) [some (.tup [d.enc, .int p, .tup pile, .tup needs]), none, none, some d.enc, some (.int p), some (.tup pile), some (.tup needs), none] S = .ok (.bl (needs.all (lets 1 8))) S :=
          allL (lets 1 8) (gvar rfl) hnl (by show 7 < 8; decide) fun a ha => gcall (gcons (gvar rfl) gnil) (name_ok (k + 6) S (List.all_eq_true.mp hn a ha))
        have bad5 : evE (o (k + 8)) (.or [.not (.bi .all [.lc false [7] (.nm 7) (.seq (.var 5)) [] (.call 3 [.var 7])]), .not (.bi .all [.lc false [7] (.nm 7) (.seq (.var 6)) [] (.call 2 [.var 7])])]) [some (.tup [d.enc, .int p, .tup pile, .tup needs]), none, none, some d.enc, some (.int p), some (.tup pile), some (.tup needs), none] S = .ok (.bl true) S → callF fuel fns (k + 9) 11 [.tup [d.enc, .int p, .tup pile, .tup needs]] S = .ok FORM S := fun h =>
          call_t (F := f_half_fault) rfl rfl rfl rfl (sseq (s1 _) (sseq s2 (sseq (s3 _) (sseq (s4 _) (send (sif_t h rfl (sret (ggl vFORM)))))))) rfl
        show _ = Out.ok (if (pile.all (lets 0 40) && (needs.all (lets 1 8) && decide (needs.length ≤ (keysOf needs []).length))) = true then _ else FORM) S
        by_cases c1 : pile.all (lets 0 40) = true
        · by_cases c2 : needs.all (lets 1 8) = true
          · have s5 : ∀ a, evS (o (k + 8)) (.ifs (.or [.not (.bi .all [.lc false [7] (.nm 7) (.seq (.var 5)) [] (.call 3 [.var 7])]), .not (.bi .all [.lc false [7] (.nm 7) (.seq (.var 6)) [] (.call 2 [.var 7])])]) a []) [some (.tup [d.enc, .int p, .tup pile, .tup needs]), none, none, some d.enc, some (.int p), some (.tup pile), some (.tup needs), none] S = .next [some (.tup [d.enc, .int p, .tup pile, .tup needs]), none, none, some d.enc, some (.int p), some (.tup pile), some (.tup needs), none] S := fun a => by
              have g1 := gnot (hE _ rfl)
              have g2 := gnot hE2
              rw [c1] at g1
              rw [c2] at g2
              exact sif_f (gor_f g1 rfl (gor1 g2)) rfl s0
            have hlt := gcmp (op := .lt) (o := o (k + 8)) (ρ := [some (.tup [d.enc, .int p, .tup pile, .tup needs]), none, none, some d.enc, some (.int p), some (.tup pile), some (.tup needs), none]) (S := S) (gdcnt (i := 7) (gvar (i := 6) rfl) (by show 7 < 8; decide) (show dcntV (.tup needs) = some (.int ((keysOf needs []).length : Int)) from if_pos ⟨keyed c2, by omega⟩)) (gbi (gcons (gvar (i := 6) rfl) gnil) (b_len_tup _ _)) (z := decide (((keysOf needs []).length : Int) < (needs.length : Int))) rfl
            by_cases c3 : needs.length ≤ (keysOf needs []).length
            · rw [if_pos (by rw [c1, c2, decide_eq_true c3]; rfl)]
              have s6 : ∀ a, evS (o (k + 8)) (.ifs (.cmp .lt (.dcnt 7 (.var 6)) (.bi .len [.var 6])) a []) [some (.tup [d.enc, .int p, .tup pile, .tup needs]), none, none, some d.enc, some (.int p), some (.tup pile), some (.tup needs), none] S = .next [some (.tup [d.enc, .int p, .tup pile, .tup needs]), none, none, some d.enc, some (.int p), some (.tup pile), some (.tup needs), none] S := fun a => sif_f hlt (decide_eq_false (by omega)) s0
              have s7 : evS (o (k + 8)) (.asg (.nm 1) (.call 8 [.ix (.var 0) (.lit (.int 0))])) [some (.tup [d.enc, .int p, .tup pile, .tup needs]), none, none, some d.enc, some (.int p), some (.tup pile), some (.tup needs), none] S = .next [some (.tup [d.enc, .int p, .tup pile, .tup needs]), some (.lst ((Ws d).map Wd.enc)), none, some d.enc, some (.int p), some (.tup pile), some (.tup needs), none] S :=
                sasg (gcall (gcons (e0 _ rfl) gnil) (words_ok (k + 8) d S (by omega) (by omega) (by omega))) (by show 1 < 8; decide)
              have hc2 := gnot (gcmp2 (p := .le) (q := .le) (o := o (k + 8)) (ρ := [some (.tup [d.enc, .int p, .tup pile, .tup needs]), some (.lst ((Ws d).map Wd.enc)), none, some d.enc, some (.int p), some (.tup pile), some (.tup needs), none]) (S := S) (glit (.int 0)) (gvar (i := 4) rfl) (b1 := decide ((0 : Int) ≤ p)) rfl (gbi (gcons (gvar (i := 1) rfl) gnil) (b_len_lst _ _)) (b2 := decide (p ≤ (((Ws d).map Wd.enc).length : Int))) rfl)
              rw [List.length_map] at hc2
              by_cases c4 : 0 ≤ p ∧ p.toNat ≤ (Ws d).length
              · rw [if_pos c4]
                obtain ⟨q, rfl⟩ : ∃ q : Nat, p = (q : Int) := ⟨p.toNat, by omega⟩
                rw [decide_eq_true c4.1, decide_eq_true (by omega)] at hc2
                obtain ⟨ps, hps, hdep⟩ := depths_ok (k + 7) d S (by omega)
                have hget := get_in (S0 := S) (X := []) (ws := Ws d) (p := q) ((hps q).mpr (by simpa using c4.2))
                rw [List.append_nil] at hget
                rw [Int.toNat_natCast]
                have s9 : evS (o (k + 8)) (.asg (.nm 2) (.dix (.call 10 [.var 1]) (.var 4))) [some (.tup [d.enc, .int (q : Int), .tup pile, .tup needs]), some (.lst ((Ws d).map Wd.enc)), none, some d.enc, some (.int (q : Int)), some (.tup pile), some (.tup needs), none] S = .next [some (.tup [d.enc, .int (q : Int), .tup pile, .tup needs]), some (.lst ((Ws d).map Wd.enc)), some (.int (dl (Ws d) q)), some d.enc, some (.int (q : Int)), some (.tup pile), some (.tup needs), none] (S ++ [dic (Ws d) ps]) :=
                  sasg (gdix (gcall (gcons (gvar rfl) gnil) hdep) (gvar rfl) hget) (by show 2 < 8; decide)
                have hne := gcmp (op := .ne) (o := o (k + 8)) (ρ := [some (.tup [d.enc, .int (q : Int), .tup pile, .tup needs]), some (.lst ((Ws d).map Wd.enc)), some (.int (dl (Ws d) q)), some d.enc, some (.int (q : Int)), some (.tup pile), some (.tup needs), none]) (S := S ++ [dic (Ws d) ps]) (gbi (gcons (gvar (i := 5) rfl) gnil) (b_len_tup _ _)) (gvar (i := 2) rfl) (c_ne_int _ _ _)
                have fin : ∀ v : PV, v.plain 60 = true → evE (o (k + 8)) (.ite (.cmp .ne (.bi .len [.var 5]) (.var 2)) (.tup [.lit (.str kPile), .var 2]) (.lit .non)) [some (.tup [d.enc, .int (q : Int), .tup pile, .tup needs]), some (.lst ((Ws d).map Wd.enc)), some (.int (dl (Ws d) q)), some d.enc, some (.int (q : Int)), some (.tup pile), some (.tup needs), none] (S ++ [dic (Ws d) ps]) = .ok v (S ++ [dic (Ws d) ps]) → callF fuel fns (k + 9) 11 [.tup [d.enc, .int (q : Int), .tup pile, .tup needs]] S = .ok v S := fun v hv h =>
                  call_tr (F := f_half_fault) (X := [dic (Ws d) ps]) rfl rfl rfl rfl (sseq (s1 _) (sseq s2 (sseq (s3 _) (sseq (s4 _) (sseq (s5 _) (sseq (s6 _) (sseq s7 (sseq (sif_f hc2 rfl s0) (sseq s9 (sret h)))))))))) hv
                by_cases c5 : (pile.length : Int) = dl (Ws d) q
                · rw [if_pos c5]
                  refine fin _ rfl (gite_f hne ?_ (glit _))
                  rw [c5]; simp
                · rw [if_neg c5]
                  refine fin _ rfl (gite_t hne ?_ (gtup (gcons (glit _) (gcons (gvar rfl) gnil)) (by show 2 ≤ SZ; decide)))
                  rw [beq_eq_false_iff_ne.mpr c5]; rfl
              · rw [if_neg c4]
                have : (decide ((0 : Int) ≤ p) && decide (p ≤ ((Ws d).length : Int))) = false := by
                  by_cases h0 : 0 ≤ p
                  · rw [decide_eq_false (show ¬ p ≤ ((Ws d).length : Int) from fun h => c4 ⟨h0, by omega⟩), Bool.and_false]
                  · rw [decide_eq_false h0]; rfl
                rw [this] at hc2
                exact call_t (F := f_half_fault) rfl rfl rfl rfl (sseq (s1 _) (sseq s2 (sseq (s3 _) (sseq (s4 _) (sseq (s5 _) (sseq (s6 _) (sseq s7 (send (sif_t hc2 rfl (sret (gtup (gcons (glit _) gnil) (by show 1 ≤ SZ; decide))))))))))))  rfl
            · rw [if_neg (by rw [c1, c2, decide_eq_false c3]; decide)]
              exact call_t (F := f_half_fault) rfl rfl rfl rfl (sseq (s1 _) (sseq s2 (sseq (s3 _) (sseq (s4 _) (sseq (s5 _) (send (sif_t hlt (decide_eq_true (by omega)) (sret (ggl vFORM))))))))) rfl
          · rw [if_neg (by rw [Bool.eq_false_iff.mpr c2]; simp)]
            have g1 := gnot (hE _ rfl)
            have g2 := gnot hE2
            rw [c1] at g1
            rw [Bool.eq_false_iff.mpr c2] at g2
            exact bad5 (gor_f g1 rfl (gor1 g2))
        · rw [if_neg (by rw [Bool.eq_false_iff.mpr c1]; simp)]
          have g1 := gnot (hE _ rfl)
          rw [Bool.eq_false_iff.mpr c1] at g1
          exact bad5 (gor_t g1 rfl)
  | non => exact notInt (fun p h => by cases h)
  | bl b => exact notInt (fun p h => by cases h)
  | str s => exact notInt (fun p h => by cases h)
  | _ => cases h1
end K12

set_option linter.all false
set_option autoImplicit false
set_option maxRecDepth 100000
set_option maxHeartbeats 4000000
namespace K12
open MK MK.A
/-! ### _law_due -/
theorem due_ok (k : Nat) (d : D) (S : Store) (F : Fine d) {x1 x2 x3 : PV} (h1 : scal x1 = true) (h2 : Arg x2) (h3 : Arg x3) : callF fuel fns (k + 9) 19 [.tup [d.enc, x1, x2, x3]] S = .ok (hf d x1 x2 x3) S := by
  have hcl := (Ws_len d).1
  have hF := F.cnt
  have d1 := F.dep
  have e0 : ∀ ρ : Env, ρ[0]? = some (some (.tup [d.enc, x1, x2, x3])) → evE (o (k + 8)) (.ix (.var 0) (.lit (.int 0))) ρ S = .ok d.enc S := fun ρ h => gix (gvar h) (glit _) (i_tup S _ 0 rfl)
  have e1 : ∀ (ρ : Env) (S : Store), ρ[0]? = some (some (.tup [d.enc, x1, x2, x3])) → evE (o (k + 8)) (.ix (.var 0) (.lit (.int 1))) ρ S = .ok x1 S := fun ρ S h => gix (gvar h) (glit _) (i_tup S _ 1 rfl)
  have e2 : ∀ (ρ : Env) (S : Store), ρ[0]? = some (some (.tup [d.enc, x1, x2, x3])) → evE (o (k + 8)) (.ix (.var 0) (.lit (.int 2))) ρ S = .ok x2 S := fun ρ S h => gix (gvar h) (glit _) (i_tup S _ 2 rfl)
  have e3 : ∀ (ρ : Env) (S : Store), ρ[0]? = some (some (.tup [d.enc, x1, x2, x3])) → evE (o (k + 8)) (.ix (.var 0) (.lit (.int 3))) ρ S = .ok x3 S := fun ρ S h => gix (gvar h) (glit _) (i_tup S _ 3 rfl)
  have orF : ∀ (b : Bool), evE (o (k + 8)) (.or [.not (.isi (.ix (.var 0) (.lit (.int 1))) .int), .isi (.ix (.var 0) (.lit (.int 1))) .bool]) [some (.tup [d.enc, x1, x2, x3]), none, none] S = .ok (.bl b) S → evE (o (k + 8)) (.or [.not (.isi (.var 0) .tuple), .cmp .ne (.bi .len [.var 0]) (.lit (.int 4)), .not (.call 7 [.ix (.var 0) (.lit (.int 0))]), .not (.isi (.ix (.var 0) (.lit (.int 1))) .int), .isi (.ix (.var 0) (.lit (.int 1))) .bool]) [some (.tup [d.enc, x1, x2, x3]), none, none] S = .ok (.bl b) S := fun b h =>
    gor_f (x := !true) (gnot (gisi (gvar rfl) rfl)) rfl (gor_f (gcmp (gbi (gcons (gvar rfl) gnil) rfl) (glit _) (c_ne_int _ _ _)) rfl (gor_f (gnot (x := true) (gcall (gcons (e0 _ rfl) gnil) (deed_ok (k + 8) d S F.ok (by omega) (by omega) (by omega)))) rfl h))
  have fE : ∀ ρ : Env, evE (o (k + 8)) (.tup [.lit (.str kForm)]) ρ S = .ok FORM S := fun ρ => gtup (gcons (glit _) gnil) (by show 1 ≤ SZ; decide)
  have notInt : (∀ p, x1 ≠ .int p) → callF fuel fns (k + 9) 19 [.tup [d.enc, x1, x2, x3]] S = .ok FORM S := fun hn => by
    refine call_t (F := f__law_due) rfl rfl rfl rfl (send (sif_t (orF true ?_) rfl (sret (fE _)))) rfl
    cases x1 with
    | int p => exact absurd rfl (hn p)
    | non => exact gor_t (x := !false) (gnot (gisi (e1 _ S rfl) rfl)) rfl
    | str s => exact gor_t (x := !false) (gnot (gisi (e1 _ S rfl) rfl)) rfl
    | bl b => exact gor_f (x := !true) (gnot (gisi (e1 _ S rfl) rfl)) rfl (gor1 (gisi (e1 _ S rfl) rfl))
    | _ => cases h1
  cases x1 with
  | int p =>
    have s1 : ∀ a, evS (o (k + 8)) (.ifs (.or [.not (.isi (.var 0) .tuple), .cmp .ne (.bi .len [.var 0]) (.lit (.int 4)), .not (.call 7 [.ix (.var 0) (.lit (.int 0))]), .not (.isi (.ix (.var 0) (.lit (.int 1))) .int), .isi (.ix (.var 0) (.lit (.int 1))) .bool]) a []) [some (.tup [d.enc, .int p, x2, x3]), none, none] S = .next [some (.tup [d.enc, .int p, x2, x3]), none, none] S := fun a =>
      sif_f (orF false (gor_f (x := !true) (gnot (gisi (e1 _ S rfl) rfl)) rfl (gor1 (gisi (e1 _ S rfl) rfl)))) rfl s0
    have bad2 : evE (o (k + 8)) (.or [.not (.isi (.ix (.var 0) (.lit (.int 2))) .tuple), .not (.isi (.ix (.var 0) (.lit (.int 3))) .tuple), .not (.bi .all [.lc false [2] (.nm 2) (.seq (.ix (.var 0) (.lit (.int 2)))) [] (.call 18 [.var 2, .lit (.int 0), .lit (.int 40)])])]) [some (.tup [d.enc, .int p, x2, x3]), none, none] S = .ok (.bl true) S → callF fuel fns (k + 9) 19 [.tup [d.enc, .int p, x2, x3]] S = .ok FORM S := fun h =>
      call_t (F := f__law_due) rfl rfl rfl rfl (sseq (s1 _) (send (sif_t h rfl (sret (fE _))))) rfl
    cases h2 with
    | lst l => exact bad2 (gor_t (x := !false) (gnot (gisi (e2 _ S rfl) rfl)) rfl)
    | non => exact bad2 (gor_t (x := !false) (gnot (gisi (e2 _ S rfl) rfl)) rfl)
    | tup pile hp hpl =>
      cases h3 with
      | lst l => exact bad2 (gor_f (x := !true) (gnot (gisi (e2 _ S rfl) rfl)) rfl (gor_t (gnot (x := false) (gisi (e3 _ S rfl) rfl)) rfl))
      | non => exact bad2 (gor_f (x := !true) (gnot (gisi (e2 _ S rfl) rfl)) rfl (gor_t (gnot (x := false) (gisi (e3 _ S rfl) rfl)) rfl))
      | tup needs hn hnl =>
        have hE := gnot (allL (n := k + 8) (ρ := [some (.tup [d.enc, .int p, .tup pile, .tup needs]), none, none]) (S := S) (i := 2) (e := .ix (.var 0) (.lit (.int 2))) (elt := .call 18 [.var 2, .lit (.int 0), .lit (.int 40)]) (lets 0 40) (e2 _ S rfl) hpl (by show 2 < 3; decide) fun a ha => gcall (gcons (gvar rfl) (gcons (glit _) (gcons (glit _) gnil))) (law_text_ok (k + 7) S 0 40 (List.all_eq_true.mp hp a ha)))
        have hE2 := gnot (allL (n := k + 8) (ρ := [some (.tup [d.enc, .int p, .tup pile, .tup needs]), none, none]) (S := S) (i := 2) (e := .ix (.var 0) (.lit (.int 3))) (elt := .call 18 [.var 2, .lit (.int 1), .lit (.int 8)]) (lets 1 8) (e3 _ S rfl) hnl (by show 2 < 3; decide) fun a ha => gcall (gcons (gvar rfl) (gcons (glit _) (gcons (glit _) gnil))) (law_text_ok (k + 7) S 1 8 (List.all_eq_true.mp hn a ha)))
        show _ = Out.ok (if (pile.all (lets 0 40) && (needs.all (lets 1 8) && decide (needs.length ≤ (keysOf needs []).length))) = true then _ else FORM) S
        by_cases c1 : pile.all (lets 0 40) = true
        · rw [c1] at hE
          have s2 : ∀ a, evS (o (k + 8)) (.ifs (.or [.not (.isi (.ix (.var 0) (.lit (.int 2))) .tuple), .not (.isi (.ix (.var 0) (.lit (.int 3))) .tuple), .not (.bi .all [.lc false [2] (.nm 2) (.seq (.ix (.var 0) (.lit (.int 2)))) [] (.call 18 [.var 2, .lit (.int 0), .lit (.int 40)])])]) a []) [some (.tup [d.enc, .int p, .tup pile, .tup needs]), none, none] S = .next [some (.tup [d.enc, .int p, .tup pile, .tup needs]), none, none] S := fun a =>
            sif_f (gor_f (x := !true) (gnot (gisi (e2 _ S rfl) rfl)) rfl (gor_f (x := !true) (gnot (gisi (e3 _ S rfl) rfl)) rfl (gor1 hE))) rfl s0
          have bad3 : evE (o (k + 8)) (.or [.not (.bi .all [.lc false [2] (.nm 2) (.seq (.ix (.var 0) (.lit (.int 3)))) [] (.call 18 [.var 2, .lit (.int 1), .lit (.int 8)])]), .cmp .lt (.scnt (.ix (.var 0) (.lit (.int 3)))) (.bi .len [.ix (.var 0) (.lit (.int 3))])]) [some (.tup [d.enc, .int p, .tup pile, .tup needs]), none, none] S = .ok (.bl true) S → callF fuel fns (k + 9) 19 [.tup [d.enc, .int p, .tup pile, .tup needs]] S = .ok FORM S := fun h =>
            call_t (F := f__law_due) rfl rfl rfl rfl (sseq (s1 _) (sseq (s2 _) (send (sif_t h rfl (sret (fE _)))))) rfl
          by_cases c2 : needs.all (lets 1 8) = true
          · rw [c2] at hE2
            have hlt := gcmp (op := .lt) (o := o (k + 8)) (ρ := [some (.tup [d.enc, .int p, .tup pile, .tup needs]), none, none]) (S := S) (gscnt (e3 _ S rfl) (show seqOf S (.tup needs) = some needs from rfl) (show scntV needs = some (.int ((keysOf needs []).length : Int)) from if_pos ⟨keyed c2, by omega⟩)) (gbi (gcons (e3 _ S rfl) gnil) (b_len_tup _ _)) (z := decide (((keysOf needs []).length : Int) < (needs.length : Int))) rfl
            by_cases c3 : needs.length ≤ (keysOf needs []).length
            · rw [if_pos (by rw [c1, c2, decide_eq_true c3]; rfl)]
              rw [decide_eq_false (by omega)] at hlt
              have s3 : ∀ a, evS (o (k + 8)) (.ifs (.or [.not (.bi .all [.lc false [2] (.nm 2) (.seq (.ix (.var 0) (.lit (.int 3)))) [] (.call 18 [.var 2, .lit (.int 1), .lit (.int 8)])]), .cmp .lt (.scnt (.ix (.var 0) (.lit (.int 3)))) (.bi .len [.ix (.var 0) (.lit (.int 3))])]) a []) [some (.tup [d.enc, .int p, .tup pile, .tup needs]), none, none] S = .next [some (.tup [d.enc, .int p, .tup pile, .tup needs]), none, none] S := fun a => sif_f (gor_f hE2 rfl (gor1 hlt)) rfl s0
              obtain ⟨ps, X, A, -, hdep⟩ := law_depths_ok (k + 7) d S (by omega)
              have s4 : evS (o (k + 8)) (.asg (.nm 1) (.call 17 [.call 16 [.ix (.var 0) (.lit (.int 0))]])) [some (.tup [d.enc, .int p, .tup pile, .tup needs]), none, none] S = .next [some (.tup [d.enc, .int p, .tup pile, .tup needs]), some (.ref S.length), none] (S ++ [dic (Ws d) ps] ++ X) :=
                sasg (gcall (gcons (gcall (gcons (e0 _ rfl) gnil) (law_words_ok (k + 8) d S (by omega) (by omega) (by omega))) gnil) hdep) (by show 1 < 3; decide)
              have hd0 : ∀ r : Option PV, dicGet (S ++ [dic (Ws d) ps] ++ X) (.ref S.length) (.int p) = some r → evE (o (k + 8)) (.din true (.ix (.var 0) (.lit (.int 1))) (.var 1)) [some (.tup [d.enc, .int p, .tup pile, .tup needs]), some (.ref S.length), none] (S ++ [dic (Ws d) ps] ++ X) = .ok (.bl (!r.isSome)) (S ++ [dic (Ws d) ps] ++ X) := fun r hr => gdin (e1 _ _ rfl) (gvar rfl) hr
              by_cases c4 : 0 ≤ p ∧ p.toNat ≤ (Ws d).length
              · rw [if_pos c4]
                obtain ⟨q, rfl⟩ : ∃ q : Nat, p = (q : Int) := ⟨p.toNat, by omega⟩
                have hget := get_in (S0 := S) (X := X) (ws := Ws d) (p := q) ((A.all q).mpr (by simpa using c4.2))
                rw [Int.toNat_natCast]
                have hdx : evE (o (k + 8)) (.dix (.var 1) (.ix (.var 0) (.lit (.int 1)))) [some (.tup [d.enc, .int (q : Int), .tup pile, .tup needs]), some (.ref S.length), none] (S ++ [dic (Ws d) ps] ++ X) = .ok (.int (dl (Ws d) q)) (S ++ [dic (Ws d) ps] ++ X) := gdix (gvar rfl) (e1 _ _ rfl) hget
                have hne := gcmp (op := .ne) (gbi (gcons (e2 [some (.tup [d.enc, .int (q : Int), .tup pile, .tup needs]), some (.ref S.length), none] (S ++ [dic (Ws d) ps] ++ X) rfl) gnil) (b_len_tup _ _)) hdx (c_ne_int _ _ _)
                have fin : ∀ v : PV, v.plain 60 = true → evE (o (k + 8)) (.ite (.cmp .ne (.bi .len [.ix (.var 0) (.lit (.int 2))]) (.dix (.var 1) (.ix (.var 0) (.lit (.int 1))))) (.tup [.lit (.str kPile), .dix (.var 1) (.ix (.var 0) (.lit (.int 1)))]) (.lit .non)) [some (.tup [d.enc, .int (q : Int), .tup pile, .tup needs]), some (.ref S.length), none] (S ++ [dic (Ws d) ps] ++ X) = .ok v (S ++ [dic (Ws d) ps] ++ X) → callF fuel fns (k + 9) 19 [.tup [d.enc, .int (q : Int), .tup pile, .tup needs]] S = .ok v S := fun v hv h =>
                  call_tr (F := f__law_due) (X := [dic (Ws d) ps] ++ X) rfl rfl rfl rfl (sseq (s1 _) (sseq (s2 _) (sseq (s3 _) (sseq s4 (sseq (sif_f (hd0 _ hget) rfl s0) (sret (by rw [← List.append_assoc]; exact h))))))) hv
                by_cases c5 : (pile.length : Int) = dl (Ws d) q
                · rw [if_pos c5]
                  refine fin _ rfl (gite_f hne ?_ (glit _))
                  rw [c5]; simp
                · rw [if_neg c5]
                  refine fin _ rfl (gite_t hne ?_ (gtup (gcons (glit _) (gcons hdx gnil)) (by show 2 ≤ SZ; decide)))
                  rw [beq_eq_false_iff_ne.mpr c5]; rfl
              · rw [if_neg c4]
                have hget : dicGet (S ++ [dic (Ws d) ps] ++ X) (.ref S.length) (.int p) = some none := by
                  rw [get_ps, if_neg (fun h => c4 ⟨h.1, (A.all _).mp h.2⟩)]
                exact call_tr (F := f__law_due) (X := [dic (Ws d) ps] ++ X) rfl rfl rfl rfl (sseq (s1 _) (sseq (s2 _) (sseq (s3 _) (sseq s4 (send (sif_t (hd0 _ hget) rfl (sret (S1 := S ++ ([dic (Ws d) ps] ++ X)) (by rw [← List.append_assoc]; exact gtup (gcons (glit _) gnil) (by show 1 ≤ SZ; decide))))))))) rfl
            · rw [if_neg (by rw [c1, c2, decide_eq_false c3]; decide)]
              rw [decide_eq_true (by omega)] at hlt
              exact bad3 (gor_f hE2 rfl (gor1 hlt))
          · rw [if_neg (by rw [Bool.eq_false_iff.mpr c2]; simp)]
            rw [Bool.eq_false_iff.mpr c2] at hE2
            exact bad3 (gor_t hE2 rfl)
        · rw [if_neg (by rw [Bool.eq_false_iff.mpr c1]; simp)]
          rw [Bool.eq_false_iff.mpr c1] at hE
          exact bad2 (gor_f (x := !true) (gnot (gisi (e2 _ S rfl) rfl)) rfl (gor_f (x := !true) (gnot (gisi (e3 _ S rfl) rfl)) rfl (gor1 hE)))
  | non => exact notInt (fun p h => by cases h)
  | bl b => exact notInt (fun p h => by cases h)
  | str s => exact notInt (fun p h => by cases h)
  | _ => cases h1
/-! ### other values -/
theorem half_no (k : Nat) (v : PV) (S : Store) (h : isTy S .tuple v = some false ∨ ∃ l, v = .tup l ∧ (l.length ≠ 4 ∨ ∃ a b c e, l = [a, b, c, e] ∧ callF fuel fns k 7 [a] S = .ok (.bl false) S)) : callF fuel fns (k + 1) 11 [v] S = .ok FORM S := by
  refine call_t (F := f_half_fault) rfl rfl rfl rfl (send (sif_t (x := true) ?_ rfl (sret (ggl vFORM)))) rfl
  rcases h with h | ⟨l, rfl, h | ⟨a, b, c, e, rfl, h⟩⟩
  · exact gor_t (x := !false) (gnot (gisi (gvar rfl) h)) rfl
  · refine gor_f (x := !true) (gnot (gisi (gvar rfl) rfl)) rfl (gor_t (gcmp (gbi (gcons (gvar rfl) gnil) (b_len_tup _ _)) (glit _) (c_ne_int _ _ _)) ?_)
    rw [beq_eq_false_iff_ne.mpr (by omega)]; rfl
  · exact gor_f (x := !true) (gnot (gisi (gvar rfl) rfl)) rfl (gor_f (gcmp (gbi (gcons (gvar rfl) gnil) rfl) (glit _) (c_ne_int _ _ _)) rfl (gor1 (gnot (x := false) (gcall (gcons (gix (gvar rfl) (glit _) (i_tup S _ 0 rfl)) gnil) h))))
theorem due_no (k : Nat) (v : PV) (S : Store) (h : isTy S .tuple v = some false ∨ ∃ l, v = .tup l ∧ (l.length ≠ 4 ∨ ∃ a b c e, l = [a, b, c, e] ∧ callF fuel fns k 7 [a] S = .ok (.bl false) S)) : callF fuel fns (k + 1) 19 [v] S = .ok FORM S := by
  refine call_t (F := f__law_due) rfl rfl rfl rfl (send (sif_t (x := true) ?_ rfl (sret (gtup (gcons (glit _) gnil) (by show 1 ≤ SZ; decide))))) rfl
  rcases h with h | ⟨l, rfl, h | ⟨a, b, c, e, rfl, h⟩⟩
  · exact gor_t (x := !false) (gnot (gisi (gvar rfl) h)) rfl
  · refine gor_f (x := !true) (gnot (gisi (gvar rfl) rfl)) rfl (gor_t (gcmp (gbi (gcons (gvar rfl) gnil) (b_len_tup _ _)) (glit _) (c_ne_int _ _ _)) ?_)
    rw [beq_eq_false_iff_ne.mpr (by omega)]; rfl
  · exact gor_f (x := !true) (gnot (gisi (gvar rfl) rfl)) rfl (gor_f (gcmp (gbi (gcons (gvar rfl) gnil) rfl) (glit _) (c_ne_int _ _ _)) rfl (gor_t (gnot (x := false) (gcall (gcons (gix (gvar rfl) (glit _) (i_tup S _ 0 rfl)) gnil) h)) rfl))
end K12

set_option linter.all false
set_option autoImplicit false
set_option maxRecDepth 100000
set_option maxHeartbeats 4000000
namespace K12
open MK MK.A
/-! ### the machine's store -/
abbrev cD : List Nat := [68, 111, 105, 110, 103]
abbrev fDeed : List Nat := [95, 100, 101, 101, 100]
abbrev fPlace : List Nat := [95, 112, 108, 97, 99, 101]
abbrev fWords : List Nat := [95, 119, 111, 114, 100, 115]
abbrev fPile : List Nat := [95, 112, 105, 108, 101]
abbrev fNeeds : List Nat := [95, 110, 101, 101, 100, 115]
abbrev fKnown : List Nat := [95, 107, 110, 111, 119, 110]
def fsM (d : D) (p : Nat) (n kd : Nat) : List (List Nat × PV) := [(fDeed, d.enc), (fPlace, .int (p : Int)), (fWords, .lst ((Ws d).map Wd.enc)), (fPile, .ref (n + 1)), (fNeeds, .ref (n + 2)), (fKnown, .ref kd)]
def tX (l : List (List Nat)) : List PV := l.map .str
def M (S : Store) (d : D) (p : Nat) (kd : Nat) (pile needs : List (List Nat)) : Store := S ++ [.ins cD (fsM d p S.length kd), .lst (tX pile), .lst (tX needs)]
section
variable {S : Store} {d : D} {p kd : Nat} {pile needs : List (List Nat)}
theorem M_len : (M S d p kd pile needs).length = S.length + 3 := by simp [M]
theorem M0 : (M S d p kd pile needs)[S.length]? = some (.ins cD (fsM d p S.length kd)) := by
  unfold M; rw [List.getElem?_append_right (Nat.le_refl _), Nat.sub_self]; rfl
theorem M1 : (M S d p kd pile needs)[S.length + 1]? = some (.lst (tX pile)) := by
  unfold M; rw [List.getElem?_append_right (by omega), Nat.add_sub_cancel_left]; rfl
theorem M2 : (M S d p kd pile needs)[S.length + 2]? = some (.lst (tX needs)) := by
  unfold M; rw [List.getElem?_append_right (by omega), Nat.add_sub_cancel_left]; rfl
theorem MS {k : Nat} {c : Cell} (h : S[k]? = some c) : (M S d p kd pile needs)[k]? = some c := by
  unfold M; rw [List.getElem?_append_left (List.getElem?_eq_some_iff.mp h).1]; exact h
theorem M_fld {f : List Nat} {v : PV} (h : lookF f (fsM d p S.length kd) = some v) : fldOf (M S d p kd pile needs) cD (.ref S.length) f = some v := by
  have e : insOf (M S d p kd pile needs) (.ref S.length) = some (cD, fsM d p S.length kd) := by
    show (match (M S d p kd pile needs)[S.length]? with | some (.ins c fs) => some (c, fs) | _ => none) = _
    rw [M0]
  unfold fldOf
  rw [e]
  show (if cD = cD then lookF f (fsM d p S.length kd) else none) = _
  rw [if_pos rfl, h]
theorem M_isIns {m : List Nat} (h : (lookF m (fsM d p S.length kd)).isNone = true) : isIns (M S d p kd pile needs) (.ref S.length) cD m = true := by
  have e : insOf (M S d p kd pile needs) (.ref S.length) = some (cD, fsM d p S.length kd) := by
    show (match (M S d p kd pile needs)[S.length]? with | some (.ins c fs) => some (c, fs) | _ => none) = _
    rw [M0]
  unfold isIns
  rw [e]
  show (decide (cD = cD) && (lookF m (fsM d p S.length kd)).isNone) = true
  rw [h]; rfl
theorem M_setP {q : Nat} : setF (M S d p kd pile needs) cD (.ref S.length) fPlace (.int (q : Int)) = some (M S d q kd pile needs) := by
  show (match (M S d p kd pile needs)[S.length]? with | some (.ins c' fs) => if c' = cD ∧ fs.length < 900 then some ((M S d p kd pile needs).set S.length (.ins cD (putN fPlace (.int (q : Int)) fs))) else none | _ => none) = _
  rw [M0]
  show (if cD = cD ∧ (fsM d p S.length kd).length < 900 then some ((M S d p kd pile needs).set S.length (.ins cD (putN fPlace (.int (q : Int)) (fsM d p S.length kd)))) else none) = _
  rw [if_pos ⟨rfl, by show 6 < 900; decide⟩]
  unfold M
  rw [List.set_append_right _ _ (Nat.le_refl _), Nat.sub_self]
  rfl
theorem M_set1 {l : List (List Nat)} : (M S d p kd pile needs).set (S.length + 1) (.lst (tX l)) = M S d p kd l needs := by
  unfold M
  rw [List.set_append_right _ _ (by omega), Nat.add_sub_cancel_left]
  rfl
theorem M_set2 {l : List (List Nat)} : (M S d p kd pile needs).set (S.length + 2) (.lst (tX l)) = M S d p kd pile l := by
  unfold M
  rw [List.set_append_right _ _ (by omega), Nat.add_sub_cancel_left]
  rfl
theorem M_app1 {s : List Nat} (h : pile.length < SZ) : appendTo (M S d p kd pile needs) (.ref (S.length + 1)) (.str s) = .ok .non (M S d p kd (pile ++ [s]) needs) := by
  show (match (M S d p kd pile needs)[S.length + 1]? with | some (.lst xs) => if xs.length < SZ then Out.ok PV.non ((M S d p kd pile needs).set (S.length + 1) (.lst (xs ++ [PV.str s]))) else .bad | _ => .bad) = _
  rw [M1]
  show (if (tX pile).length < SZ then Out.ok PV.non ((M S d p kd pile needs).set (S.length + 1) (.lst (tX pile ++ [PV.str s]))) else .bad) = _
  rw [if_pos (by unfold tX; rw [List.length_map]; exact h), show tX pile ++ [PV.str s] = tX (pile ++ [s]) from by simp [tX], M_set1]
theorem M_app2 {s : List Nat} (h : needs.length < SZ) : appendTo (M S d p kd pile needs) (.ref (S.length + 2)) (.str s) = .ok .non (M S d p kd pile (needs ++ [s])) := by
  show (match (M S d p kd pile needs)[S.length + 2]? with | some (.lst xs) => if xs.length < SZ then Out.ok PV.non ((M S d p kd pile needs).set (S.length + 2) (.lst (xs ++ [PV.str s]))) else .bad | _ => .bad) = _
  rw [M2]
  show (if (tX needs).length < SZ then Out.ok PV.non ((M S d p kd pile needs).set (S.length + 2) (.lst (tX needs ++ [PV.str s]))) else .bad) = _
  rw [if_pos (by unfold tX; rw [List.length_map]; exact h), show tX needs ++ [PV.str s] = tX (needs ++ [s]) from by simp [tX], M_set2]
theorem t_pile : evBI (M S d p kd pile needs) .tuple [.ref (S.length + 1)] = some (.tup (tX pile)) := by
  show (match (M S d p kd pile needs)[S.length + 1]? with | some (.lst xs) => some xs | _ => none).map PV.tup = _
  rw [M1]; rfl
theorem t_needs : evBI (M S d p kd pile needs) .tuple [.ref (S.length + 2)] = some (.tup (tX needs)) := by
  show (match (M S d p kd pile needs)[S.length + 2]? with | some (.lst xs) => some xs | _ => none).map PV.tup = _
  rw [M2]; rfl
theorem plain_strs2 (n : Nat) (l : List (List Nat)) : PV.plainAll n (tX l) = true := plain_strs n l
end
/-! ### no places in what is plain -/
mutual
theorem under_plain : ∀ (n k : Nat) (v : PV), v.plain n = true → v.under k = true
  | n, k, .non, _ => rfl
  | n, k, .bl _, _ => rfl
  | n, k, .int _, _ => rfl
  | n, k, .str _, _ => rfl
  | 0, k, .tup xs, h => by simp [PV.plain] at h
  | 0, k, .lst xs, h => by simp [PV.plain] at h
  | n + 1, k, .tup xs, h => by show PV.underAll k xs = true; exact underAll_plain n k xs (by simpa [PV.plain] using h)
  | n + 1, k, .lst xs, h => by show PV.underAll k xs = true; exact underAll_plain n k xs (by simpa [PV.plain] using h)
  | n, k, .ref _, h => by cases n <;> simp [PV.plain] at h
  | n, k, .ty _, h => by cases n <;> simp [PV.plain] at h
theorem underAll_plain : ∀ (n k : Nat) (xs : List PV), PV.plainAll n xs = true → PV.underAll k xs = true
  | n, k, [], _ => rfl
  | n, k, x :: xs, h => by
    unfold PV.plainAll at h
    rw [Bool.and_eq_true] at h
    show (PV.under k x && PV.underAll k xs) = true
    rw [under_plain n k x h.1, underAll_plain n k xs h.2]; rfl
end
theorem M_low {S : Store} {d : D} {p kd : Nat} {pile needs : List (List Nat)} (hF : Flat S) (hk : kd < S.length) (hd : d.dep ≤ 50) : lowS (S.length + 3) (M S d p kd pile needs) = true := by
  unfold lowS
  rw [Bool.and_eq_true, decide_eq_true_eq]
  refine ⟨by rw [M_len]; exact Nat.le_refl _, ?_⟩
  rw [List.take_of_length_le (by rw [M_len]; exact Nat.le_refl _)]
  refine List.all_eq_true.mpr fun c hc => ?_
  unfold M at hc
  rw [List.mem_append] at hc
  rcases hc with hc | hc
  · exact hF c hc _
  · simp only [List.mem_cons, List.not_mem_nil, or_false] at hc
    rcases hc with rfl | rfl | rfl
    · show PV.underAll (S.length + 3) [d.enc, .int (p : Int), .lst ((Ws d).map Wd.enc), .ref (S.length + 1), .ref (S.length + 2), .ref kd] = true
      have h1 := under_plain 60 (S.length + 3) d.enc (d.plain_enc 60 (by omega))
      have h2 := under_plain 60 (S.length + 3) (.lst ((Ws d).map Wd.enc)) (by show PV.plainAll 59 _ = true; exact plain_ws 57 _)
      show (PV.under (S.length + 3) d.enc && (true && (PV.under (S.length + 3) (.lst ((Ws d).map Wd.enc)) && (decide (S.length + 1 < S.length + 3) && (decide (S.length + 2 < S.length + 3) && (decide (kd < S.length + 3) && true)))))) = true
      rw [h1, h2, decide_eq_true (by omega), decide_eq_true (by omega), decide_eq_true (by omega)]; rfl
    · exact underAll_plain 5 _ _ (plain_strs2 5 pile)
    · exact underAll_plain 5 _ _ (plain_strs2 5 needs)
/-- a method: what was there may be changed -/
theorem call_gc {n f : Nat} {vs : List PV} {S0 S' : Store} {F : Fn} {v : PV} {r : SOut} (hF : fns[f]? = some F) (hl : vs.length = F.np) (hg : F.gc = true) (h : evSs (o n) F.body (start F.nl vs) S0 = r) (hr : r = .ret v S' ∨ (v = .non ∧ ∃ ρ, r = .next ρ S')) (hv : v.plain 60 = true) (hlen : S'.length = S0.length) (hlow : lowS S0.length S' = true) : callF fuel fns (n + 1) f vs S0 = .ok v S' := by
  have e : callF fuel fns (n + 1) f vs S0 = (match fns[f]? with
    | some F => if vs.length = F.np then cond F.gc (finG S0 (evSs (o n) F.body (start F.nl vs) S0)) (fin F.trunc S0 (evSs (o n) F.body (start F.nl vs) S0)) else .bad
    | none => .bad) := rfl
  rw [e, hF]
  show (if vs.length = F.np then cond F.gc (finG S0 (evSs (o n) F.body (start F.nl vs) S0)) _ else Out.bad) = _
  rw [if_pos hl, hg, h]
  have hc : closeG S0 v S' = .ok v S' := by
    unfold closeG
    rw [frz_plain _ _ 60 v hv]
    show (if lowS S0.length S' = true then Out.ok v (S'.take S0.length) else .bad) = _
    rw [if_pos hlow, List.take_of_length_le (by omega)]
  rcases hr with rfl | ⟨rfl, ρ, rfl⟩
  · exact hc
  · exact hc
end K12

set_option linter.all false
set_option autoImplicit false
set_option maxRecDepth 100000
set_option maxHeartbeats 4000000
namespace K12
open MK MK.A
section
variable {S : Store} {d : D} {p kd : Nat} {pile needs : List (List Nat)}
/-- what is known of the store -/
structure Ok (S : Store) (d : D) (kd : Nat) : Prop where
  flat : Flat S
  kd : S[kd]? = some (.dic [] [])
  fine : Fine d
theorem Ok.lt (h : Ok S d kd) : kd < S.length := (List.getElem?_eq_some_iff.mp h.kd).1
theorem Ok.low (h : Ok S d kd) : lowS (M S d p kd pile needs).length (M S d p kd pile needs) = true := by rw [M_len]; exact M_low h.flat h.lt (by have := h.fine.dep; omega)
theorem Ok.low2 (h : Ok S d kd) {q : Nat} {p2 n2 : List (List Nat)} : lowS (M S d q kd p2 n2).length (M S d p kd pile needs) = true := by rw [M_len]; exact M_low h.flat h.lt (by have := h.fine.dep; omega)
theorem len2 {q : Nat} {p2 n2 : List (List Nat)} : (M S d p kd pile needs).length = (M S d q kd p2 n2).length := by rw [M_len, M_len]
/-- o.f for the machine -/
theorem fl {n : Nat} {ρ : Env} {f : List Nat} {v : PV} (h : ρ[0]? = some (some (.ref S.length))) (hf : lookF f (fsM d p S.length kd) = some v) : evE (o n) (.fld cD (.var 0) f) ρ (M S d p kd pile needs) = .ok v (M S d p kd pile needs) := gfld (gvar h) (M_fld hf)
/-! ### _half -/
theorem half_m (n : Nat) (h : Ok S d kd) : ∃ v, v.plain 57 = true ∧ callF fuel fns (n + 1) 23 [.ref S.length] (M S d p kd pile needs) = .ok v (M S d p kd pile needs) := by
  refine ⟨.tup [d.enc, .int (p : Int), .tup (tX pile), .tup (tX needs)], ?_, call_gc (F := f_Doing__half) rfl rfl rfl (sret (gtup (gcons (fl rfl rfl) (gcons (fl rfl rfl) (gcons (gbi (gcons (fl rfl rfl) gnil) t_pile) (gcons (gbi (gcons (fl rfl rfl) gnil) t_needs) gnil)))) (by show 4 ≤ SZ; decide))) (.inl rfl) ?_ rfl h.low⟩
  all_goals
    have h1 := d.plain_enc 50 (by have := h.fine.dep; omega)
    have h2 := plain_strs2 50 pile
    have h3 := plain_strs2 50 needs
  · have m1 := (plain_mono (show 50 ≤ 56 by decide)).1 _ h1
    have m2 := (plain_mono (show 50 ≤ 55 by decide)).2 _ h2
    have m3 := (plain_mono (show 50 ≤ 55 by decide)).2 _ h3
    show PV.plainAll 56 [d.enc, .int (p : Int), .tup (tX pile), .tup (tX needs)] = true
    simp only [PV.plainAll, PV.plain, m1, m2, m3, Bool.and_self]
  · have m1 := (plain_mono (show 50 ≤ 59 by decide)).1 _ h1
    have m2 := (plain_mono (show 50 ≤ 58 by decide)).2 _ h2
    have m3 := (plain_mono (show 50 ≤ 58 by decide)).2 _ h3
    show PV.plainAll 59 [d.enc, .int (p : Int), .tup (tX pile), .tup (tX needs)] = true
    simp only [PV.plainAll, PV.plain, m1, m2, m3, Bool.and_self]
theorem mem_needs {name : List Nat} : ∃ b : Bool, evCmp (M S d p kd pile needs) .nmem (.str name) (.ref (S.length + 2)) = some b := by
  have e : evIn (M S d p kd pile needs) (.str name) (.ref (S.length + 2)) = some (memV (.str name) (tX needs)) := by
    have e1 : evIn (M S d p kd pile needs) (.str name) (.ref (S.length + 2)) = (match (PV.str name).plain DEEP, seqOf (M S d p kd pile needs) (.ref (S.length + 2)) with
      | true, some ys => if PV.plainAll DEEP ys then some (memV (.str name) ys) else none
      | _, _ => none) := by
      unfold evIn
      split
      · rename_i heq; cases heq
      · rfl
    have e2 : seqOf (M S d p kd pile needs) (.ref (S.length + 2)) = some (tX needs) := by
      show (match (M S d p kd pile needs)[S.length + 2]? with | some (.lst xs) => some xs | _ => none) = _
      rw [M2]
    rw [e1, e2]
    show (if PV.plainAll DEEP (tX needs) then _ else _) = _
    rw [if_pos (plain_strs2 _ needs)]
  refine ⟨!memV (.str name) (tX needs), ?_⟩
  show (evIn (M S d p kd pile needs) (.str name) (.ref (S.length + 2))).map (!·) = _
  rw [e]; rfl
/-- _asked: nothing is known -/
theorem asked_m (n : Nat) (h : Ok S d kd) (name : List Nat) (t : Int) (hn : needs.length < 1000) : ∃ v needs', v.plain 60 = true ∧ v ≠ .non ∧ callF fuel fns (n + 2) 24 [.ref S.length, .str name, .int t] (M S d p kd pile needs) = .ok v (M S d p kd pile needs') := by
  have e0 : ∀ nd : List (List Nat), evE (o (n + 1)) (.din true (.var 1) (.fld cD (.var 0) fKnown)) [some (.ref S.length), some (.str name), some (.int t), none] (M S d p kd pile nd) = .ok (.bl true) (M S d p kd pile nd) := fun nd => by
    have hg : dicGet (M S d p kd pile nd) (.ref kd) (.str name) = some none := by
      have e : dicOf (M S d p kd pile nd) (.ref kd) = some ([], []) := by
        show (match (M S d p kd pile nd)[kd]? with | some (.dic ks vs) => some (ks, vs) | _ => none) = _
        rw [MS h.kd]
      unfold dicGet
      rw [e]; rfl
    exact gdin (gvar rfl) (fl rfl rfl) hg
  have last : ∀ nd : List (List Nat), ∃ v, v.plain 60 = true ∧ v ≠ .non ∧ evS (o (n + 1)) (.ifs (.din true (.var 1) (.fld cD (.var 0) fKnown)) [.ret (.tup [.lit (.str [119, 97, 105, 116, 115]), .var 1, .meth cD 23 [95, 104, 97, 108, 102] (.var 0) []])] []) [some (.ref S.length), some (.str name), some (.int t), none] (M S d p kd pile nd) = .ret v (M S d p kd pile nd) := fun nd => by
    obtain ⟨v, hv, hc⟩ := half_m (p := p) (pile := pile) (needs := nd) n h
    refine ⟨.tup [.str [119, 97, 105, 116, 115], .str name, v], ?_, (fun e => by cases e), sif_t (e0 nd) rfl (sret (gtup (gcons (glit _) (gcons (gvar rfl) (gcons (gmeth (gvar rfl) (M_isIns rfl) gnil hc) gnil))) (by show 3 ≤ SZ; decide)))⟩
    have := (plain_mono (show 57 ≤ 59 by decide)).1 _ hv
    show PV.plainAll 59 [.str [119, 97, 105, 116, 115], .str name, v] = true
    simp only [PV.plainAll, PV.plain, this, Bool.and_self]
  obtain ⟨b, hb⟩ := mem_needs (S := S) (d := d) (p := p) (kd := kd) (pile := pile) (needs := needs) (name := name)
  have hm := gcmp (op := .nmem) (o := o (n + 1)) (ρ := [some (.ref S.length), some (.str name), some (.int t), none]) (S := M S d p kd pile needs) (gvar (i := 1) rfl) (fl (f := fNeeds) rfl rfl) hb
  cases b with
  | true =>
    obtain ⟨v, hv, hne, hl⟩ := last (needs ++ [name])
    exact ⟨v, needs ++ [name], hv, hne, call_gc (F := f_Doing__asked) rfl rfl rfl (sseq (sif_t hm rfl (sseq (sex (gapp (fl rfl rfl) M2 (gvar rfl) (M_app2 (by unfold SZ; omega)))) s0)) (send hl)) (.inl rfl) hv len2 h.low2⟩
  | false =>
    obtain ⟨v, hv, hne, hl⟩ := last needs
    exact ⟨v, needs, hv, hne, call_gc (F := f_Doing__asked) rfl rfl rfl (sseq (sif_f hm rfl s0) (send hl)) (.inl rfl) hv len2 h.low2⟩
theorem last_ix {init : List (List Nat)} {s : List Nat} : evIx (M S d p kd (init ++ [s]) needs) (.ref (S.length + 1)) (.int (-1)) = some (.str s) := by
  have e : listOf (M S d p kd (init ++ [s]) needs) (.ref (S.length + 1)) = some (tX init ++ [.str s]) := by
    show (match (M S d p kd (init ++ [s]) needs)[S.length + 1]? with | some (.lst xs) => some xs | _ => none) = _
    rw [M1]; simp [tX]
  have e2 : evIx (M S d p kd (init ++ [s]) needs) (.ref (S.length + 1)) (.int (-1)) = (match listOf (M S d p kd (init ++ [s]) needs) (.ref (S.length + 1)) with | some xs => ixAt xs (-1) | none => none) := rfl
  rw [e2, e]
  exact i_last (M S d p kd (init ++ [s]) needs) (tX init) (.str s)
/-- _named -/
theorem named_m (n : Nat) (h : Ok S d kd) (init : List (List Nat)) (s : List Nat) (hs : s.length ≤ 40) (hn : needs.length < 1000) : ∃ v needs', v.plain 60 = true ∧ v ≠ .non ∧ callF fuel fns (n + 3) 25 [.ref S.length] (M S d p kd (init ++ [s]) needs) = .ok v (M S d p kd (init ++ [s]) needs') := by
  have s1 : evS (o (n + 2)) (.asg (.nm 1) (.ix (.fld cD (.var 0) fPile) (.neg (.lit (.int 1))))) [some (.ref S.length), none] (M S d p kd (init ++ [s]) needs) = .next [some (.ref S.length), some (.str s)] (M S d p kd (init ++ [s]) needs) := sasg (gix (fl rfl rfl) (gneg (glit _)) last_ix) (by show 1 < 2; decide)
  have hnm := gnot (gcall (o := o (n + 2)) (f := 2) (ρ := [some (.ref S.length), some (.str s)]) (gcons (gvar (i := 1) rfl) gnil) (name_ok n (M S d p kd (init ++ [s]) needs) (v := .str s) (decide_eq_true (by unfold SZ; omega))))
  by_cases hb : lets 1 8 (.str s) = true
  · rw [hb] at hnm
    obtain ⟨v, nd, hv, hne, hc⟩ := asked_m (p := p) (pile := init ++ [s]) n h s 1 hn
    exact ⟨v, nd, hv, hne, call_gc (F := f_Doing__named) rfl rfl rfl (sseq s1 (sseq (sif_f hnm rfl s0) (sret (gmeth (gvar rfl) (M_isIns rfl) (gcons (gvar rfl) (gcons (glit _) gnil)) hc)))) (.inl rfl) hv len2 h.low2⟩
  · rw [Bool.eq_false_iff.mpr hb] at hnm
    refine ⟨.tup [.str [100, 111, 110, 101], .tup [.str [102, 97, 117, 108, 116], .str [108, 97, 99, 107, 115], .str s], .tup (tX needs)], needs, ?_, (fun e => by cases e), call_gc (F := f_Doing__named) rfl rfl rfl (sseq s1 (send (sif_t hnm rfl (sret (gtup (gcons (glit _) (gcons (gtup (gcons (glit _) (gcons (glit _) (gcons (gvar rfl) gnil))) (by show 3 ≤ SZ; decide)) (gcons (gbi (gcons (fl rfl rfl) gnil) t_needs) gnil))) (by show 3 ≤ SZ; decide)))))) (.inl rfl) ?_ len2 h.low2⟩
    all_goals
      show PV.plainAll 59 [.str [100, 111, 110, 101], .tup [.str [102, 97, 117, 108, 116], .str [108, 97, 99, 107, 115], .str s], .tup (tX needs)] = true
      simp only [PV.plainAll, PV.plain, plain_strs2, Bool.and_self]
theorem pop_m {n : Nat} {ρ : Env} {init : List (List Nat)} {s : List Nat} (h0 : ρ[0]? = some (some (.ref S.length))) : evE (o n) (.pop (.fld cD (.var 0) fPile)) ρ (M S d p kd (init ++ [s]) needs) = .ok (.str s) (M S d p kd init needs) := by
  have := gpop (o := o n) (ρ := ρ) (S := M S d p kd (init ++ [s]) needs) (fl (f := fPile) h0 rfl) M1 (y := .str s) (by simp [tX])
  rw [this, show (tX (init ++ [s])).dropLast = tX init from by simp [tX], M_set1]
theorem place_m {n : Nat} {ρ : Env} {e : C} {k : Nat} (h0 : ρ[0]? = some (some (.ref S.length))) (he : evE (o n) e ρ (M S d p kd pile needs) = .ok (.int (k : Int)) (M S d p kd pile needs)) : evS (o n) (.afld cD (.var 0) fPlace .add e) ρ (M S d p kd pile needs) = .next ρ (M S d (p + k) kd pile needs) := by
  refine safld (gvar h0) (M_fld rfl) he (z := .int ((p + k : Nat) : Int)) ?_ M_setP
  show some (PV.int ((p : Int) + (k : Int))) = _
  rw [Int.natCast_add]
/-- _joined -/
theorem joined_m (n : Nat) (h : Ok S d kd) (init : List (List Nat)) (s t : List Nat) (hs : s.length ≤ 40) (ht : t.length ≤ 40) (hl : init.length < 1000) : (∃ v, v.plain 60 = true ∧ v ≠ .non ∧ callF fuel fns (n + 1) 26 [.ref S.length] (M S d p kd (init ++ [s, t]) needs) = .ok v (M S d p kd init needs)) ∨
    (s ++ t).length ≤ 40 ∧ callF fuel fns (n + 1) 26 [.ref S.length] (M S d p kd (init ++ [s, t]) needs) = .ok .non (M S d (p + 1) kd (init ++ [s ++ t]) needs) := by
  have s1 : evS (o n) (.asg (.tp [.nm 1, .nm 2]) (.tup [.pop (.fld cD (.var 0) fPile), .pop (.fld cD (.var 0) fPile)])) [some (.ref S.length), none, none] (M S d p kd (init ++ [s, t]) needs) = .next [some (.ref S.length), some (.str t), some (.str s)] (M S d p kd init needs) := by
    rw [show init ++ [s, t] = (init ++ [s]) ++ [t] from by simp]
    exact stp (gtup (gcons (pop_m rfl) (gcons (pop_m rfl) gnil)) (by show 2 ≤ SZ; decide)) rfl
  have ea : evE (o n) (.bin .add (.var 2) (.var 1)) [some (.ref S.length), some (.str t), some (.str s)] (M S d p kd init needs) = .ok (.str (s ++ t)) (M S d p kd init needs) := gbin (gvar rfl) (gvar rfl) (if_pos (by unfold SZ; omega))
  have hg := gcmp (op := .gt) (gbi (gcons ea gnil) (b_len_str _ _)) (ggl vMOST_CONTENT_halves) (z := decide ((40 : Int) < ((s ++ t).length : Int))) rfl
  by_cases hc : (s ++ t).length ≤ 40
  · rw [decide_eq_false (by omega)] at hg
    refine .inr ⟨hc, call_gc (F := f_Doing__joined) rfl rfl rfl (sseq s1 (sseq (sif_f hg rfl s0) (sseq (sex (gapp (fl rfl rfl) M1 ea (M_app1 (by unfold SZ; omega)))) (sseq (place_m (k := 1) rfl (glit _)) (sret (glit _)))))) (.inl rfl) rfl len2 h.low2⟩
  · rw [decide_eq_true (by omega)] at hg
    refine .inl ⟨.tup [.str [100, 111, 110, 101], vLONG, .tup (tX needs)], ?_, (fun e => by cases e), call_gc (F := f_Doing__joined) rfl rfl rfl (sseq s1 (send (sif_t hg rfl (sret (gtup (gcons (glit _) (gcons (ggl _) (gcons (gbi (gcons (fl rfl rfl) gnil) t_needs) gnil))) (by show 3 ≤ SZ; decide)))))) (.inl rfl) ?_ len2 h.low2⟩
    all_goals
      show PV.plainAll 59 [.str [100, 111, 110, 101], .tup [.str [102, 97, 117, 108, 116], .str [108, 111, 110, 103], .str []], .tup (tX needs)] = true
      simp only [PV.plainAll, PV.plain, plain_strs2, Bool.and_self]
/-- _same -/
theorem same_m (n : Nat) (h : Ok S d kd) (init : List (List Nat)) (s t : List Nat) (k : Nat) : ∃ j, (j = 1 ∨ j = 1 + k) ∧ callF fuel fns (n + 1) 27 [.ref S.length, .int (k : Int)] (M S d p kd (init ++ [s, t]) needs) = .ok .non (M S d (p + j) kd init needs) := by
  have s1 : evS (o n) (.asg (.tp [.nm 2, .nm 3]) (.tup [.pop (.fld cD (.var 0) fPile), .pop (.fld cD (.var 0) fPile)])) [some (.ref S.length), some (.int (k : Int)), none, none] (M S d p kd (init ++ [s, t]) needs) = .next [some (.ref S.length), some (.int (k : Int)), some (.str t), some (.str s)] (M S d p kd init needs) := by
    rw [show init ++ [s, t] = (init ++ [s]) ++ [t] from by simp]
    exact stp (gtup (gcons (pop_m rfl) (gcons (pop_m rfl) gnil)) (by show 2 ≤ SZ; decide)) rfl
  have hc := gcmp (op := .eq) (o := o n) (ρ := [some (.ref S.length), some (.int (k : Int)), some (.str t), some (.str s)]) (S := M S d p kd init needs) (gvar (i := 2) rfl) (gvar (i := 3) rfl) (c_eq_str _ _ _)
  by_cases e : t = s
  · exact ⟨1, .inl rfl, call_gc (F := f_Doing__same) rfl rfl rfl (sseq s1 (sseq (place_m (k := 1) rfl (gite_t hc (by rw [e]; simp) (glit _))) s0)) (.inr ⟨rfl, _, rfl⟩) rfl len2 h.low2⟩
  · exact ⟨1 + k, .inr rfl, call_gc (F := f_Doing__same) rfl rfl rfl (sseq s1 (sseq (place_m (k := 1 + k) rfl (gite_f hc (beq_eq_false_iff_ne.mpr e) (gbin (glit _) (gvar rfl) (N.add_nat _ 1 k)))) s0)) (.inr ⟨rfl, _, rfl⟩) rfl len2 h.low2⟩
end
end K12

set_option linter.all false
set_option autoImplicit false
set_option maxRecDepth 100000
set_option maxHeartbeats 4000000
namespace K12
open MK MK.A
theorem strsOf_one : ∀ l : List Nat, strsOf (l.map fun c => PV.str [c]) = some (l.map fun c => [c])
  | [] => rfl
  | c :: l => by
    show (strsOf (l.map fun c => PV.str [c])).map ([c] :: ·) = _
    rw [strsOf_one l]; rfl
theorem joinL_one : ∀ l : List Nat, joinL [] (l.map fun c => [c]) = l
  | [] => rfl
  | [c] => rfl
  | c :: e :: l => by
    show [c] ++ [] ++ joinL [] ((e :: l).map fun c => [c]) = _
    rw [joinL_one (e :: l)]; rfl
theorem join_one (S : Store) (l : List Nat) (h : l.length ≤ 1000) : evBM S .join (.str []) [.lst (l.map fun c => .str [c])] = some (.str l) := by
  show (match strsOf (l.map fun c => PV.str [c]) with | some ss => if (ss.map List.length).sum + ss.length * 0 ≤ SZ then some (PV.str (joinL [] ss)) else none | none => none) = _
  rw [strsOf_one]
  show (if ((l.map fun c => [c]).map List.length).sum + (l.map fun c => [c]).length * 0 ≤ SZ then some (PV.str (joinL [] (l.map fun c => [c]))) else none) = _
  have e : ∀ l : List Nat, ((l.map fun c => [c]).map List.length).sum = l.length := by
    intro l
    induction l with
    | nil => rfl
    | cons c l ih => rw [List.map_cons, List.map_cons, List.sum_cons, ih]; simp; omega
  rw [e, joinL_one, if_pos (by unfold SZ; omega)]
theorem insC_len (x : Nat) : ∀ l : List Nat, (insC x l).length = l.length + 1
  | [] => rfl
  | y :: l => by
    unfold insC
    split
    · rfl
    · rw [List.length_cons, insC_len x l]; rfl
theorem srtC_len : ∀ l : List Nat, (srtC l).length = l.length
  | [] => rfl
  | x :: l => by
    show (insC x (srtC l)).length = _
    rw [insC_len, srtC_len l]; rfl
section
variable {S : Store} {d : D} {p kd : Nat} {pile needs : List (List Nat)}
/-- words that change the topmost content -/
def chg : Wd → Bool
  | .head _ => true
  | .back => true
  | .sort => true
  | .swap _ _ => true
  | _ => false
theorem changed_m (n : Nat) (h : Ok S d kd) (w : Wd) (hw : chg w = true) (init : List (List Nat)) (s : List Nat) (hs : s.length ≤ 40) (hl : init.length < 1000) : ∃ s' : List Nat, s'.length ≤ 40 ∧ callF fuel fns (n + 1) 28 [.ref S.length, w.enc] (M S d p kd (init ++ [s]) needs) = .ok .non (M S d (p + 1) kd (init ++ [s']) needs) := by
  have s1 : evS (o n) (.asg (.nm 2) (.pop (.fld cD (.var 0) fPile))) [some (.ref S.length), some w.enc, none, none] (M S d p kd (init ++ [s]) needs) = .next [some (.ref S.length), some w.enc, some (.str s), none] (M S d p kd init needs) := sasg (pop_m rfl) (by show 2 < 4; decide)
  have e0 : evE (o n) (.ix (.var 1) (.lit (.int 0))) [some (.ref S.length), some w.enc, some (.str s), none] (M S d p kd init needs) = .ok (.str w.kind) (M S d p kd init needs) := w0 w rfl
  have ck : ∀ kk : List Nat, evE (o n) (.cmp .eq (.ix (.var 1) (.lit (.int 0))) (.lit (.str kk))) [some (.ref S.length), some w.enc, some (.str s), none] (M S d p kd init needs) = .ok (.bl (w.kind == kk)) (M S d p kd init needs) := fun kk => gcmp e0 (glit _) (c_eq_str _ _ _)
  have fin : ∀ (s' : List Nat) (st : MK.S) , s'.length ≤ 40 → f_Doing__changed.body = [.asg (.nm 2) (.pop (.fld cD (.var 0) fPile)), st, .ex (.app (.fld cD (.var 0) fPile) (.var 2)), .afld cD (.var 0) fPlace .add (.lit (.int 1))] → evS (o n) st [some (.ref S.length), some w.enc, some (.str s), none] (M S d p kd init needs) = .next [some (.ref S.length), some w.enc, some (.str s'), none] (M S d p kd init needs) →
      ∃ s' : List Nat, s'.length ≤ 40 ∧ callF fuel fns (n + 1) 28 [.ref S.length, w.enc] (M S d p kd (init ++ [s]) needs) = .ok .non (M S d (p + 1) kd (init ++ [s']) needs) := fun s' st h40 hb hst =>
    ⟨s', h40, call_gc (F := f_Doing__changed) rfl rfl rfl (by rw [hb]; exact sseq s1 (sseq hst (sseq (sex (gapp (fl rfl rfl) M1 (gvar rfl) (M_app1 (by unfold SZ; omega)))) (sseq (place_m (k := 1) rfl (glit _)) s0)))) (.inr ⟨rfl, _, rfl⟩) rfl len2 h.low2⟩
  cases w with
  | head k =>
    refine fin (cut s none (some (k : Int))) _ ?_ rfl (sif_t (ck _) rfl (sseq (sasg (gslt (gvar rfl) (gix (gvar rfl) (glit _) (i_tup _ [.str kHead, .int (k : Int)] 1 rfl)) rfl) (by show 2 < 4; decide)) s0))
    unfold cut
    exact Nat.le_trans (List.length_take_le' _ _) (Nat.le_trans (by rw [List.length_drop]; omega) hs)
  | back => exact fin s.reverse _ (by rw [List.length_reverse]; exact hs) rfl (sif_f (ck _) rfl (sseq (sif_t (ck _) rfl (sseq (sasg (grev (gvar rfl)) (by show 2 < 4; decide)) s0)) s0))
  | sort => exact fin (srtC s) _ (by rw [srtC_len]; exact hs) rfl (sif_f (ck _) rfl (sseq (sif_f (ck _) rfl (sseq (sif_t (ck _) rfl (sseq (sasg (gbm (glit _) (gcons (gbi (gcons (gvar rfl) gnil) (if_pos (by omega))) gnil) (join_one _ _ (by rw [srtC_len]; omega))) (by show 2 < 4; decide)) s0)) s0)) s0))
  | swap x y =>
    have hlc := glc (o := o n) (ρ := [some (.ref S.length), some (Wd.swap x y).enc, some (.str s), none]) (S := M S d p kd init needs) (i := 3) (it := .seq (.var 2)) (elt := .ite (.cmp .eq (.var 3) (.ix (.var 1) (.lit (.int 1)))) (.ix (.var 1) (.lit (.int 2))) (.var 3)) (l := s) (fun c => .str [c]) (fun c => .str [if c = x then y else c])
      (it_seq (gvar (i := 2) rfl) (wk_str s)) (by unfold SZ; omega) (by show 3 < 4; decide) (fun c hc => by
        have hcc := gcmp (op := .eq) (o := o n) (ρ := [some (.ref S.length), some (Wd.swap x y).enc, some (.str s), some (.str [c])]) (S := M S d p kd init needs) (gvar (i := 3) rfl) (gix (gvar (i := 1) rfl) (glit (.int 1)) (i_tup _ [.str kSwap, .str [x], .str [y]] 1 rfl)) (c_eq_str _ _ _)
        by_cases e : c = x
        · rw [if_pos e]
          exact gite_t hcc (by rw [e]; simp) (gix (gvar rfl) (glit _) (i_tup _ [.str kSwap, .str [x], .str [y]] 2 rfl))
        · rw [if_neg e]
          exact gite_f hcc (beq_eq_false_iff_ne.mpr fun z => e (by simpa using z)) (gvar rfl))
    have hj := join_one (M S d p kd init needs) (s.map fun c => if c = x then y else c) (by rw [List.length_map]; omega)
    rw [List.map_map] at hj
    exact fin (s.map fun c => if c = x then y else c) _ (by rw [List.length_map]; exact hs) rfl (sif_f (ck _) rfl (sseq (sif_f (ck _) rfl (sseq (sif_f (ck _) rfl (sseq (sasg (gbm (glit _) (gcons hlc gnil) hj) (by show 2 < 4; decide)) s0)) s0)) s0))
  | _ => cases hw
theorem top1 {l : List (List Nat)} (h : 1 ≤ l.length) : ∃ init s, l = init ++ [s] := by
  rcases List.eq_nil_or_concat l with rfl | ⟨i, s, rfl⟩
  · simp at h
  · exact ⟨i, s, List.concat_eq_append⟩
theorem top2 {l : List (List Nat)} (h : 2 ≤ l.length) : ∃ init s t, l = init ++ [s, t] := by
  obtain ⟨i, t, rfl⟩ := top1 (show 1 ≤ l.length by omega)
  rw [List.length_append] at h
  obtain ⟨j, s, rfl⟩ := top1 (show 1 ≤ i.length by simp at h; omega)
  exact ⟨j, s, t, by simp⟩
/-- a pile as it must be at the place p -/
structure Pl (d : D) (p : Nat) (pile : List (List Nat)) : Prop where
  le : p ≤ (Ws d).length
  len : (pile.length : Int) = dl (Ws d) p
  short : ∀ s ∈ pile, s.length ≤ 40
def wok : Wd → Prop
  | .text s => s.length ≤ 40
  | _ => True
theorem Ws_wok (d : D) : d.ok → ∀ w ∈ Ws d, wok w := by
  induction d with
  | text s => intro h w hw; simp [Ws] at hw; subst hw; exact h.2
  | need s => intro h w hw; simp [Ws] at hw; subst hw; exact trivial
  | join a b ha hb => intro h w hw; simp [Ws] at hw; rcases hw with hw | hw | rfl; exact ha h.1 w hw; exact hb h.2 w hw; exact trivial
  | named a ha => intro h w hw; simp [Ws] at hw; rcases hw with hw | rfl; exact ha h w hw; exact trivial
  | back a ha => intro h w hw; simp [Ws] at hw; rcases hw with hw | rfl; exact ha h w hw; exact trivial
  | sort a ha => intro h w hw; simp [Ws] at hw; rcases hw with hw | rfl; exact ha h w hw; exact trivial
  | head k a ha => intro h w hw; simp [Ws] at hw; rcases hw with hw | rfl; exact ha h.2 w hw; exact trivial
  | swap x y a ha => intro h w hw; simp [Ws] at hw; rcases hw with hw | rfl; exact ha h.2.2 w hw; exact trivial
  | same a b c e ha hb hc he =>
    intro h w hw
    simp [Ws] at hw
    rcases hw with hw | hw | rfl | hw | rfl | hw
    · exact ha h.1 w hw
    · exact hb h.2.1 w hw
    · exact trivial
    · exact hc h.2.2.1 w hw
    · exact trivial
    · exact he h.2.2.2 w hw
theorem word_m (n : Nat) (h : Ok S d kd) (P : Pl d p pile) {w : Wd} (hw : (Ws d)[p]? = some w) (hn : needs.length < 500) : (∃ v q pile' needs', v.plain 60 = true ∧ v ≠ .non ∧ callF fuel fns (n + 5) 29 [.ref S.length, w.enc] (M S d p kd pile needs) = .ok v (M S d q kd pile' needs')) ∨
    ∃ q pile', p < q ∧ Pl d q pile' ∧ callF fuel fns (n + 5) 29 [.ref S.length, w.enc] (M S d p kd pile needs) = .ok .non (M S d q kd pile' needs) := by
  have hp : p < (Ws d).length := (List.getElem?_eq_some_iff.mp hw).1
  have hd := dl_succ hw
  have hq := Ws_enh d 0 (Int.le_refl _) p w hw
  have hle := dl_le (Ws d) p P.le
  have hWl := (Ws_len d).1
  have hcn := h.fine.cnt
  have hlen := P.len
  have hJ := Ws_jmp d p
  have hwk := Ws_wok d h.fine.ok w (List.mem_of_getElem? hw)
  have pl1 : pile.length < 1000 := by omega
  have ck : ∀ kk : List Nat, evE (o (n + 4)) (.cmp .eq (.ix (.var 1) (.lit (.int 0))) (.lit (.str kk))) [some (.ref S.length), some w.enc] (M S d p kd pile needs) = .ok (.bl (w.kind == kk)) (M S d p kd pile needs) := fun kk => gcmp (w0 w rfl) (glit _) (c_eq_str _ _ _)
  have ret_ : ∀ {v : PV} {q : Nat} {pile' needs' : List (List Nat)}, v.plain 60 = true → evSs (o (n + 4)) f_Doing__word.body [some (.ref S.length), some w.enc] (M S d p kd pile needs) = .ret v (M S d q kd pile' needs') → callF fuel fns (n + 5) 29 [.ref S.length, w.enc] (M S d p kd pile needs) = .ok v (M S d q kd pile' needs') := fun hv hb => call_gc (F := f_Doing__word) rfl rfl rfl hb (.inl rfl) hv len2 h.low2
  cases w with
  | need s =>
    obtain ⟨v, nd, hv, hne, hc⟩ := asked_m (p := p) (pile := pile) (needs := needs) (n + 2) h s 0 (by omega)
    exact .inl ⟨v, p, pile, nd, hv, hne, ret_ hv (send (sif_t (ck _) rfl (sret (gmeth (gvar rfl) (M_isIns rfl) (gcons (gix (gvar rfl) (glit _) (i_tup _ [.str kNeed, .str s] 1 rfl)) (gcons (glit _) gnil)) hc))))⟩
  | named =>
    obtain ⟨init, s, rfl⟩ := top1 (l := pile) (by simp only [req] at hq; omega)
    obtain ⟨v, nd, hv, hne, hc⟩ := named_m (p := p) (needs := needs) (n + 1) h init s (P.short s (by simp)) (by omega)
    exact .inl ⟨v, p, init ++ [s], nd, hv, hne, ret_ hv (sseq (sif_f (ck _) rfl s0) (send (sif_t (ck _) rfl (sret (gmeth (gvar rfl) (M_isIns rfl) gnil hc)))))⟩
  | join =>
    obtain ⟨init, s, t, rfl⟩ := top2 (l := pile) (by simp only [req] at hq; omega)
    have hs := P.short s (by simp)
    have ht := P.short t (by simp)
    rw [List.length_append] at pl1 hlen
    rcases joined_m (p := p) (needs := needs) (n + 3) h init s t hs ht (by simp at pl1; omega) with ⟨v, hv, hne, hc⟩ | ⟨h40, hc⟩
    · exact .inl ⟨v, p, init, needs, hv, hne, ret_ hv (sseq (sif_f (ck _) rfl s0) (sseq (sif_f (ck _) rfl s0) (send (sif_t (ck _) rfl (sret (gmeth (gvar rfl) (M_isIns rfl) gnil hc))))))⟩
    · refine .inr ⟨p + 1, init ++ [s ++ t], Nat.lt_succ_self _, ⟨hp, ?_, fun u hu => ?_⟩, ret_ rfl (sseq (sif_f (ck _) rfl s0) (sseq (sif_f (ck _) rfl s0) (send (sif_t (ck _) rfl (sret (gmeth (gvar rfl) (M_isIns rfl) gnil hc))))))⟩
      · rw [hd, List.length_append]; simp only [lay]; simp at hlen ⊢; omega
      · rw [List.mem_append, List.mem_singleton] at hu
        rcases hu with hu | rfl
        · exact P.short u (by simp [hu])
        · exact h40
  | text s =>
    refine .inr ⟨p + 1, pile ++ [s], Nat.lt_succ_self _, ⟨hp, ?_, fun u hu => ?_⟩, ret_ rfl (sseq (sif_f (ck _) rfl s0) (sseq (sif_f (ck _) rfl s0) (sseq (sif_f (ck _) rfl s0) (sseq (sif_t (ck _) rfl (sseq (sex (gapp (fl rfl rfl) M1 (gix (gvar rfl) (glit _) (i_tup _ [.str kText, .str s] 1 rfl)) (M_app1 (by unfold SZ; omega)))) (sseq (place_m (k := 1) rfl (glit _)) s0))) (sret (glit _))))))⟩
    · rw [hd, List.length_append]; simp only [lay]; simp; omega
    · rw [List.mem_append, List.mem_singleton] at hu
      rcases hu with hu | rfl
      · exact P.short u hu
      · exact hwk
  | leap k =>
    obtain ⟨j1, j2⟩ := hJ.2 k hw
    refine .inr ⟨p + (1 + k), pile, by omega, ⟨by omega, by rw [show p + (1 + k) = p + 1 + k from by omega, j2]; exact hlen, P.short⟩, ret_ rfl (sseq (sif_f (ck _) rfl s0) (sseq (sif_f (ck _) rfl s0) (sseq (sif_f (ck _) rfl s0) (sseq (sif_f (ck _) rfl (sseq (sif_t (ck _) rfl (sseq (place_m (k := 1 + k) rfl (gbin (glit _) (gix (gvar rfl) (glit _) (i_tup _ [.str kLeap, .int (k : Int)] 1 rfl)) (N.add_nat _ 1 k))) s0)) s0)) (sret (glit _))))))⟩
  | same k =>
    obtain ⟨j1, j2⟩ := hJ.1 k hw
    obtain ⟨init, s, t, rfl⟩ := top2 (l := pile) (by simp only [req] at hq; omega)
    obtain ⟨j, hj, hc⟩ := same_m (p := p) (needs := needs) (n + 3) h init s t k
    rw [List.length_append] at hlen
    refine .inr ⟨p + j, init, by omega, ⟨by omega, ?_, fun u hu => P.short u (by simp [hu])⟩, ret_ rfl (sseq (sif_f (ck _) rfl s0) (sseq (sif_f (ck _) rfl s0) (sseq (sif_f (ck _) rfl s0) (sseq (sif_f (ck _) rfl (sseq (sif_f (ck _) rfl (sseq (sif_t (ck _) rfl (sseq (sex (gmeth (gvar rfl) (M_isIns rfl) (gcons (gix (gvar rfl) (glit _) (i_tup _ [.str kSame, .int (k : Int)] 1 rfl)) gnil) hc)) s0)) s0)) s0)) (sret (glit _))))))⟩
    rcases hj with rfl | rfl
    · rw [hd]; simp only [lay]; simp at hlen; omega
    · rw [show p + (1 + k) = p + 1 + k from by omega, j2]; simp at hlen; omega
  | head k =>
    obtain ⟨init, s, rfl⟩ := top1 (l := pile) (by simp only [req] at hq; omega)
    rw [List.length_append] at pl1 hlen
    obtain ⟨s', h40, hc⟩ := changed_m (p := p) (needs := needs) (n + 3) h (.head k) rfl init s (P.short s (by simp)) (by simp at pl1; omega)
    refine .inr ⟨p + 1, init ++ [s'], Nat.lt_succ_self _, ⟨hp, ?_, fun u hu => ?_⟩, ret_ rfl (sseq (sif_f (ck _) rfl s0) (sseq (sif_f (ck _) rfl s0) (sseq (sif_f (ck _) rfl s0) (sseq (sif_f (ck _) rfl (sseq (sif_f (ck _) rfl (sseq (sif_f (ck _) rfl (sseq (sex (gmeth (gvar rfl) (M_isIns rfl) (gcons (gvar rfl) gnil) hc)) s0)) s0)) s0)) (sret (glit _))))))⟩
    · rw [hd, List.length_append]; simp only [lay]; simp at hlen ⊢; omega
    · rw [List.mem_append, List.mem_singleton] at hu
      rcases hu with hu | rfl
      · exact P.short u (by simp [hu])
      · exact h40
  | back =>
    obtain ⟨init, s, rfl⟩ := top1 (l := pile) (by simp only [req] at hq; omega)
    rw [List.length_append] at pl1 hlen
    obtain ⟨s', h40, hc⟩ := changed_m (p := p) (needs := needs) (n + 3) h (.back) rfl init s (P.short s (by simp)) (by simp at pl1; omega)
    refine .inr ⟨p + 1, init ++ [s'], Nat.lt_succ_self _, ⟨hp, ?_, fun u hu => ?_⟩, ret_ rfl (sseq (sif_f (ck _) rfl s0) (sseq (sif_f (ck _) rfl s0) (sseq (sif_f (ck _) rfl s0) (sseq (sif_f (ck _) rfl (sseq (sif_f (ck _) rfl (sseq (sif_f (ck _) rfl (sseq (sex (gmeth (gvar rfl) (M_isIns rfl) (gcons (gvar rfl) gnil) hc)) s0)) s0)) s0)) (sret (glit _))))))⟩
    · rw [hd, List.length_append]; simp only [lay]; simp at hlen ⊢; omega
    · rw [List.mem_append, List.mem_singleton] at hu
      rcases hu with hu | rfl
      · exact P.short u (by simp [hu])
      · exact h40
  | sort =>
    obtain ⟨init, s, rfl⟩ := top1 (l := pile) (by simp only [req] at hq; omega)
    rw [List.length_append] at pl1 hlen
    obtain ⟨s', h40, hc⟩ := changed_m (p := p) (needs := needs) (n + 3) h (.sort) rfl init s (P.short s (by simp)) (by simp at pl1; omega)
    refine .inr ⟨p + 1, init ++ [s'], Nat.lt_succ_self _, ⟨hp, ?_, fun u hu => ?_⟩, ret_ rfl (sseq (sif_f (ck _) rfl s0) (sseq (sif_f (ck _) rfl s0) (sseq (sif_f (ck _) rfl s0) (sseq (sif_f (ck _) rfl (sseq (sif_f (ck _) rfl (sseq (sif_f (ck _) rfl (sseq (sex (gmeth (gvar rfl) (M_isIns rfl) (gcons (gvar rfl) gnil) hc)) s0)) s0)) s0)) (sret (glit _))))))⟩
    · rw [hd, List.length_append]; simp only [lay]; simp at hlen ⊢; omega
    · rw [List.mem_append, List.mem_singleton] at hu
      rcases hu with hu | rfl
      · exact P.short u (by simp [hu])
      · exact h40
  | swap x y =>
    obtain ⟨init, s, rfl⟩ := top1 (l := pile) (by simp only [req] at hq; omega)
    rw [List.length_append] at pl1 hlen
    obtain ⟨s', h40, hc⟩ := changed_m (p := p) (needs := needs) (n + 3) h (.swap x y) rfl init s (P.short s (by simp)) (by simp at pl1; omega)
    refine .inr ⟨p + 1, init ++ [s'], Nat.lt_succ_self _, ⟨hp, ?_, fun u hu => ?_⟩, ret_ rfl (sseq (sif_f (ck _) rfl s0) (sseq (sif_f (ck _) rfl s0) (sseq (sif_f (ck _) rfl s0) (sseq (sif_f (ck _) rfl (sseq (sif_f (ck _) rfl (sseq (sif_f (ck _) rfl (sseq (sex (gmeth (gvar rfl) (M_isIns rfl) (gcons (gvar rfl) gnil) hc)) s0)) s0)) s0)) (sret (glit _))))))⟩
    · rw [hd, List.length_append]; simp only [lay]; simp at hlen ⊢; omega
    · rw [List.mem_append, List.mem_singleton] at hu
      rcases hu with hu | rfl
      · exact P.short u (by simp [hu])
      · exact h40
end
end K12

set_option linter.all false
set_option autoImplicit false
set_option maxRecDepth 100000
set_option maxHeartbeats 4000000
namespace K12
open MK MK.A
section
variable {S : Store} {d : D} {p kd : Nat} {pile needs : List (List Nat)}
def goT : C := .cmp .lt (.fld cD (.var 0) fPlace) (.bi .len [.fld cD (.var 0) fWords])
def goB : List MK.S := [.asg (.nm 1) (.meth cD 29 [95, 119, 111, 114, 100] (.var 0) [.ix (.fld cD (.var 0) fWords) (.fld cD (.var 0) fPlace)]), .ifs (.cmp .notN (.var 1) (.lit .non)) [.ret (.var 1)] []]
def goE : C := .tup [.lit (.str [100, 111, 110, 101]), .tup [.lit (.str [109, 97, 100, 101]), .ix (.fld cD (.var 0) fPile) (.neg (.lit (.int 1)))], .bi .tuple [.fld cD (.var 0) fNeeds]]
theorem go_body : f_Doing_go_on.body = [.while_ goT goB, .ret goE] := rfl
theorem go_loop (n : Nat) (h : Ok S d kd) (hn : needs.length < 500) : ∀ (k p : Nat) (pile : List (List Nat)) (r1 : Option PV), Pl d p pile → (Ws d).length - p < k →
    (∃ v q pile' needs', v.plain 60 = true ∧ whileL (evE (o (n + 5)) goT) (evSs (o (n + 5)) goB) k [some (.ref S.length), r1] (M S d p kd pile needs) = .ret v (M S d q kd pile' needs')) ∨
    ∃ r1' pile', Pl d (Ws d).length pile' ∧ whileL (evE (o (n + 5)) goT) (evSs (o (n + 5)) goB) k [some (.ref S.length), r1] (M S d p kd pile needs) = .next [some (.ref S.length), r1'] (M S d (Ws d).length kd pile' needs) := by
  intro k
  induction k with
  | zero => intro p pile r1 _ hk; omega
  | succ k ih =>
    intro p pile r1 P hk
    have ht := gcmp (op := .lt) (o := o (n + 5)) (ρ := [some (.ref S.length), r1]) (S := M S d p kd pile needs) (fl (f := fPlace) rfl rfl) (gbi (gcons (fl (f := fWords) rfl rfl) gnil) (b_len_lst _ _)) (z := decide ((p : Int) < (((Ws d).map Wd.enc).length : Int))) rfl
    rw [List.length_map] at ht
    have ht : evE (o (n + 5)) goT [some (.ref S.length), r1] (M S d p kd pile needs) = _ := ht
    by_cases hp : p < (Ws d).length
    · rw [decide_eq_true (by omega)] at ht
      have hw : (Ws d)[p]? = some (Ws d)[p] := List.getElem?_eq_getElem hp
      have harg : evE (o (n + 5)) (.ix (.fld cD (.var 0) fWords) (.fld cD (.var 0) fPlace)) [some (.ref S.length), r1] (M S d p kd pile needs) = .ok (Ws d)[p].enc (M S d p kd pile needs) := gix (fl rfl rfl) (fl rfl rfl) (i_lst _ _ p (by rw [List.getElem?_map, hw]; rfl))
      rcases word_m n h P hw hn with ⟨v, q, pile', nd, hv, hne, hc⟩ | ⟨q, pile', hpq, P', hc⟩
      · have hb : evSs (o (n + 5)) goB [some (.ref S.length), r1] (M S d p kd pile needs) = .ret v (M S d q kd pile' nd) := by
          refine sseq (sasg (gmeth (gvar rfl) (M_isIns rfl) (gcons harg gnil) hc) (by show 1 < 2; decide)) (send (sif_t (gcmp (gvar rfl) (glit _) (z := true) ?_) rfl (sret (gvar rfl))))
          cases v <;> first | rfl | exact absurd rfl hne
        exact .inl ⟨v, q, pile', nd, hv, wh_ret ht hb⟩
      · have hb : evSs (o (n + 5)) goB [some (.ref S.length), r1] (M S d p kd pile needs) = .next [some (.ref S.length), some .non] (M S d q kd pile' needs) :=
          sseq (sasg (gmeth (gvar rfl) (M_isIns rfl) (gcons harg gnil) hc) (by show 1 < 2; decide)) (sseq (sif_f (gcmp (gvar rfl) (glit _) (z := false) rfl) rfl s0) s0)
        rw [wh_next ht hb]
        exact ih q pile' _ P' (by omega)
    · rw [decide_eq_false (by omega)] at ht
      have e : p = (Ws d).length := by have := P.le; omega
      subst e
      exact .inr ⟨r1, pile, P, wh_end ht⟩
theorem go_ok (n : Nat) (h : Ok S d kd) (hn : needs.length < 500) (P : Pl d p pile) : ∃ v q pile' needs', v.plain 60 = true ∧ callF fuel fns (n + 6) 30 [.ref S.length] (M S d p kd pile needs) = .ok v (M S d q kd pile' needs') := by
  have hWl := (Ws_len d).1
  have hcn := h.fine.cnt
  rcases go_loop (S := S) (d := d) (kd := kd) (needs := needs) n h hn 1000 p pile none P (by omega) with ⟨v, q, pile', nd, hv, e⟩ | ⟨r1, pile', P', e⟩
  · exact ⟨v, q, pile', nd, hv, call_gc (F := f_Doing_go_on) rfl rfl rfl (by rw [go_body]; exact send (by rw [evS_while]; exact e)) (.inl rfl) hv len2 h.low2⟩
  · have hl := P'.len
    rw [dl_end] at hl
    obtain ⟨init, s, rfl⟩ := top1 (l := pile') (by omega)
    refine ⟨.tup [.str [100, 111, 110, 101], .tup [.str [109, 97, 100, 101], .str s], .tup (tX needs)], _, _, needs, ?_, call_gc (F := f_Doing_go_on) rfl rfl rfl (by rw [go_body]; exact sseq (ρ' := [some (.ref S.length), r1]) (S1 := M S d (Ws d).length kd (init ++ [s]) needs) (by rw [evS_while]; exact e) (sret (gtup (gcons (glit _) (gcons (gtup (gcons (glit _) (gcons (gix (fl rfl rfl) (gneg (glit _)) last_ix) gnil)) (by show 2 ≤ SZ; decide)) (gcons (gbi (gcons (fl rfl rfl) gnil) t_needs) gnil))) (by show 3 ≤ SZ; decide)))) (.inl rfl) ?_ len2 h.low2⟩
    all_goals
      show PV.plainAll 59 [.str [100, 111, 110, 101], .tup [.str [109, 97, 100, 101], .str s], .tup (tX needs)] = true
      simp only [PV.plainAll, PV.plain, plain_strs2, Bool.and_self]
/-! ### made -/
theorem setF_ref (T : Store) (k : Nat) (f : List Nat) (v : PV) : setF T cD (.ref k) f v = (match T[k]? with | some (.ins c' gs) => if c' = cD ∧ gs.length < 900 then some (T.set k (.ins cD (putN f v gs))) else none | _ => none) := rfl
theorem setI {X : Store} {fs : List (List Nat × PV)} {f : List Nat} {v : PV} (h : fs.length < 900) : setF (S ++ .ins cD fs :: X) cD (.ref S.length) f v = some (S ++ .ins cD (putN f v fs) :: X) := by
  have e : (S ++ Cell.ins cD fs :: X)[S.length]? = some (.ins cD fs) := by rw [List.getElem?_append_right (Nat.le_refl _), Nat.sub_self]; rfl
  rw [setF_ref, e]
  show (if cD = cD ∧ fs.length < 900 then _ else none) = _
  rw [if_pos ⟨rfl, h⟩]
  congr 1
  show (S ++ Cell.ins cD fs :: X).set S.length (.ins cD (putN f v fs)) = _
  rw [List.set_append_right _ _ (Nat.le_refl _), Nat.sub_self]; rfl
theorem fldI {X : Store} {fs : List (List Nat × PV)} {f : List Nat} {v : PV} (h : lookF f fs = some v) : fldOf (S ++ .ins cD fs :: X) cD (.ref S.length) f = some v := by
  have e : insOf (S ++ Cell.ins cD fs :: X) (.ref S.length) = some (cD, fs) := by
    show (match (S ++ Cell.ins cD fs :: X)[S.length]? with | some (.ins c fs) => some (c, fs) | _ => none) = _
    rw [List.getElem?_append_right (Nat.le_refl _), Nat.sub_self]; rfl
  unfold fldOf
  rw [e]
  show (if cD = cD then lookF f fs else none) = _
  rw [if_pos rfl, h]
theorem init_ok (n : Nat) (h : Ok S d kd) : callF fuel fns (n + 5) 22 [.ref S.length, .tup [d.enc, .int (p : Int), .tup (tX pile), .tup (tX needs)], .ref kd] (S ++ [.ins cD []]) = .ok .non (M S d p kd pile needs) := by
  have e : callF fuel fns (n + 5) 22 [.ref S.length, .tup [d.enc, .int (p : Int), .tup (tX pile), .tup (tX needs)], .ref kd] (S ++ [.ins cD []]) = fin false (S ++ [.ins cD []]) (evSs (o (n + 4)) b_Doing___init__ [some (.ref S.length), some (.tup [d.enc, .int (p : Int), .tup (tX pile), .tup (tX needs)]), some (.ref kd), none, none] (S ++ [.ins cD []])) := rfl
  have dd := h.fine.dep
  have dc := h.fine.cnt
  have hb : evSs (o (n + 4)) b_Doing___init__ [some (.ref S.length), some (.tup [d.enc, .int (p : Int), .tup (tX pile), .tup (tX needs)]), some (.ref kd), none, none] (S ++ [.ins cD []]) = .next [some (.ref S.length), some (.tup [d.enc, .int (p : Int), .tup (tX pile), .tup (tX needs)]), some (.ref kd), some (.tup (tX pile)), some (.tup (tX needs))] (M S d p kd pile needs) := by
    have a1 : asgAs [.at_ cD 0 fDeed, .at_ cD 0 fPlace, .nm 3, .nm 4] [d.enc, .int (p : Int), .tup (tX pile), .tup (tX needs)] [some (.ref S.length), some (.tup [d.enc, .int (p : Int), .tup (tX pile), .tup (tX needs)]), some (.ref kd), none, none] (S ++ [.ins cD []]) = some ([some (.ref S.length), some (.tup [d.enc, .int (p : Int), .tup (tX pile), .tup (tX needs)]), some (.ref kd), some (.tup (tX pile)), some (.tup (tX needs))], S ++ [.ins cD [(fDeed, d.enc), (fPlace, .int (p : Int))]]) := by
      show (setF (S ++ [.ins cD []]) cD (.ref S.length) fDeed d.enc).bind _ = _
      rw [setI (by decide), Option.bind_some]
      show (setF (S ++ [.ins cD [(fDeed, d.enc)]]) cD (.ref S.length) fPlace (.int (p : Int))).bind _ = _
      rw [setI (by show 1 < 900; decide), Option.bind_some]
      rfl
    have l1 : (S ++ [Cell.ins cD [(fDeed, d.enc), (fPlace, .int (p : Int)), (fWords, .lst ((Ws d).map Wd.enc))]]).length = S.length + 1 := by simp
    have l2 : (S ++ [Cell.ins cD [(fDeed, d.enc), (fPlace, .int (p : Int)), (fWords, .lst ((Ws d).map Wd.enc)), (fPile, .ref (S.length + 1))], .lst (tX pile)]).length = S.length + 2 := by simp
    have w1 := glof (o := o (n + 4)) (ρ := [some (.ref S.length), some (.tup [d.enc, .int (p : Int), .tup (tX pile), .tup (tX needs)]), some (.ref kd), some (.tup (tX pile)), some (.tup (tX needs))]) (S := S ++ [.ins cD [(fDeed, d.enc), (fPlace, .int (p : Int)), (fWords, .lst ((Ws d).map Wd.enc))]]) (gvar (i := 3) rfl) (show seqOf _ (.tup (tX pile)) = some (tX pile) from rfl)
    rw [l1, List.append_assoc] at w1
    have w2 := glof (o := o (n + 4)) (ρ := [some (.ref S.length), some (.tup [d.enc, .int (p : Int), .tup (tX pile), .tup (tX needs)]), some (.ref kd), some (.tup (tX pile)), some (.tup (tX needs))]) (S := S ++ [.ins cD [(fDeed, d.enc), (fPlace, .int (p : Int)), (fWords, .lst ((Ws d).map Wd.enc)), (fPile, .ref (S.length + 1))], .lst (tX pile)]) (gvar (i := 4) rfl) (show seqOf _ (.tup (tX needs)) = some (tX needs) from rfl)
    rw [l2, List.append_assoc] at w2
    exact sseq (sasgA (gvar rfl) a1) (sseq (ssfld (gcall (gcons (gfld (gvar rfl) (fldI rfl)) gnil) (words_ok (n + 4) d _ (by omega) (by omega) (by omega))) (gvar rfl) (setI (by show 2 < 900; decide)))
      (sseq (ssfld w1 (gvar rfl) (setI (by show 3 < 900; decide))) (sseq (ssfld w2 (gvar rfl) (setI (by show 4 < 900; decide))) (sseq (ssfld (gvar rfl) (gvar rfl) (setI (by show 5 < 900; decide))) s0))))
  rw [e, hb]; rfl
theorem call_ex {n f : Nat} {vs : List PV} {S : Store} {F : Fn} {c : Nat} {as : List PV} {ρ : Env} (hF : fns[f]? = some F) (hl : vs.length = F.np) (ht : F.trunc = true) (hg : F.gc = false) (h : evSs (o n) F.body (start F.nl vs) S = .exc c as ρ S) : callF fuel fns (n + 1) f vs S = .exc c as S := by
  have e : callF fuel fns (n + 1) f vs S = (match fns[f]? with
    | some F => if vs.length = F.np then cond F.gc (finG S (evSs (o n) F.body (start F.nl vs) S)) (fin F.trunc S (evSs (o n) F.body (start F.nl vs) S)) else .bad
    | none => .bad) := rfl
  rw [e, hF]
  show (if vs.length = F.np then cond F.gc _ (fin F.trunc S (evSs (o n) F.body (start F.nl vs) S)) else Out.bad) = _
  rw [if_pos hl, hg, ht, h]
  show (if true then (if S.take S.length = S then Out.exc c as S else .bad) else Out.exc c as S) = _
  rw [if_pos rfl, List.take_of_length_le (Nat.le_refl _), if_pos rfl]
theorem sraise {o : Orc} {ρ : Env} {S : Store} {k : Nat} {ss : List MK.S} : evSs o (.raise k [] :: ss) ρ S = .exc k [] ρ S := rfl
theorem notN_ok (S : Store) (v : PV) : evCmp S .notN v .non = some (match v with | .non => false | _ => true) := rfl
/-- gone_on, of a half without fault -/
theorem gone_ok (n : Nat) (h : Ok S d kd) (hn : needs.length < 500) (P : Pl d p pile) (hs : (tX pile).all (lets 0 40) = true) (hnn : (tX needs).all (lets 1 8) = true) (hk : needs.length ≤ (keysOf (tX needs) []).length) : ∃ v, v.plain 60 = true ∧ callF fuel fns (n + 10) 13 [.tup [d.enc, .int (p : Int), .tup (tX pile), .tup (tX needs)], .ref kd] S = .ok v S := by
  have dc := h.fine.cnt
  have hWl := (Ws_len d).1
  have hdl := dl_le (Ws d) p P.le
  have hpl := P.len
  have hple := P.le
  obtain ⟨v, q, pile', nd, hv, hc⟩ := go_ok (n + 3) h hn P
  have scp : ∀ l : List (List Nat), (∀ s ∈ l, s.length ≤ SZ) → (tX l).all scal = true := fun l hl => List.all_eq_true.mpr fun x hx => by
    obtain ⟨s, hs, rfl⟩ := List.mem_map.mp hx
    exact decide_eq_true (hl s hs)
  have sc2 : (tX needs).all scal = true := List.all_eq_true.mpr fun x hx => by
    have := List.all_eq_true.mp hnn x hx
    obtain ⟨s, hs, rfl⟩ := List.mem_map.mp hx
    have h2 : (decide (1 ≤ s.length) && decide (s.length ≤ 8) && letB s) = true := this
    simp only [Bool.and_eq_true, decide_eq_true_eq] at h2
    exact decide_eq_true (by unfold SZ; omega)
  have hhf := half_ok n d S h.fine (x1 := .int (p : Int)) (x2 := .tup (tX pile)) (x3 := .tup (tX needs)) rfl (.tup _ (scp _ fun s hs => by have := P.short s hs; unfold SZ; omega) (by unfold tX; rw [List.length_map]; omega)) (.tup _ sc2 (by unfold tX; rw [List.length_map]; omega))
  have hz : hf d (.int (p : Int)) (.tup (tX pile)) (.tup (tX needs)) = .non := by
    show (if ((tX pile).all (lets 0 40) && ((tX needs).all (lets 1 8) && decide ((tX needs).length ≤ (keysOf (tX needs) []).length))) = true then (if 0 ≤ (p : Int) ∧ (p : Int).toNat ≤ (Ws d).length then (if ((tX pile).length : Int) = dl (Ws d) (p : Int).toNat then PV.non else _) else _) else _) = _
    rw [if_pos (by rw [hs, hnn, decide_eq_true (by rw [show (tX needs).length = needs.length from by simp [tX]]; exact hk)]; rfl), if_pos ⟨by omega, by have := P.le; rw [Int.toNat_natCast]; exact this⟩, Int.toNat_natCast, if_pos (by rw [show (tX pile).length = pile.length from by simp [tX]]; exact hpl)]
  rw [hz] at hhf
  refine ⟨v, hv, call_tr (F := f_gone_on) (X := [.ins cD (fsM d q S.length kd), .lst (tX pile'), .lst (tX nd)]) rfl rfl rfl rfl (sseq (sif_f (gcmp (gcall (gcons (gvar rfl) gnil) hhf) (glit _) (notN_ok _ _)) rfl s0) (sret (gmeth (gmake (gcons (gvar rfl) (gcons (gvar rfl) gnil)) (init_ok (n + 4) h)) (M_isIns rfl) gnil hc))) hv⟩
/-- gone_on, of what has a fault -/
theorem gone_no (n : Nat) {v w k : PV} (h : callF fuel fns n 11 [v] S = .ok w S) (hw : w ≠ .non) : callF fuel fns (n + 1) 13 [v, k] S = .exc 1 [] S := by
  refine call_ex (F := f_gone_on) (ρ := [some v, some k]) rfl rfl rfl rfl ?_
  have := gcmp (op := .notN) (o := o n) (ρ := [some v, some k]) (S := S) (gcall (f := 11) (gcons (gvar (i := 0) rfl) gnil) h) (glit .non) (z := true) (by rw [notN_ok]; cases w <;> first | rfl | exact absurd rfl hw)
  have hb : evS (o n) (.ifs (.cmp .notN (.call 11 [.var 0]) (.lit .non)) [.raise 1 []] []) [some v, some k] S = .exc 1 [] [some v, some k] S := sif_t this rfl sraise
  show evSs (o n) (.ifs (.cmp .notN (.call 11 [.var 0]) (.lit .non)) [.raise 1 []] [] :: _) [some v, some k] S = _
  rw [evSs_cons, hb]; rfl
end
end K12

set_option linter.all false
set_option autoImplicit false
set_option maxRecDepth 100000
set_option maxHeartbeats 4000000
namespace K12
open MK MK.A
abbrev kHalf : List Nat := [104, 97, 108, 102]
abbrev kDeed : List Nat := [100, 101, 101, 100]
abbrev kNone : List Nat := [110, 111, 110, 101]
def tryB : List MK.S := [.ifs (.cmp .eq (.var 0) (.lit (.int 0))) [.ex (.call 9 [.var 1])] [.ifs (.cmp .eq (.var 0) (.lit (.int 1))) [.ex (.call 12 [.var 1])] [.ex (.call 13 [.var 1, .dlit []])]]]
def hds : List Hd := [⟨[0], none, .ret (.lit (.str kDeed))⟩, ⟨[0, 1, 2], some 2, .ret (.isx 0 [1] (.lit (.str kHalf)) (.lit (.str [111, 116, 104, 101, 114])))⟩]
theorem err_body : f__law_error.body = [.try_ tryB hds, .ret (.lit (.str kNone))] := rfl
theorem try_exc {o : Orc} {b : List MK.S} {hs : List Hd} {ρ ρ' : Env} {S S' : Store} {c : Nat} {as : List PV} (h : evSs o b ρ S = .exc c as ρ' S') : evS o (.try_ b hs) ρ S = runH hs c as ρ' S' := by
  show (match evSs o b ρ S with | .exc c as ρ' S' => runH hs c as ρ' S' | r => r) = _
  rw [h]
theorem try_next {o : Orc} {b : List MK.S} {hs : List Hd} {ρ ρ' : Env} {S S' : Store} (h : evSs o b ρ S = .next ρ' S') : evS o (.try_ b hs) ρ S = .next ρ' S' := by
  show (match evSs o b ρ S with | .exc c as ρ' S' => runH hs c as ρ' S' | r => r) = _
  rw [h]
theorem sx_exc {o : Orc} {ρ : Env} {S S' : Store} {e : C} {c : Nat} {as : List PV} {ss : List MK.S} (h : evE o e ρ S = .exc c as S') : evSs o (.ex e :: ss) ρ S = .exc c as ρ S' := by
  rw [evSs_cons, evS_ex, h]; rfl
theorem sif_te {o : Orc} {ρ : Env} {S S1 : Store} {c : C} {a b ss : List MK.S} {x : Bool} {k : Nat} {as : List PV} {ρ' : Env} {S' : Store} (h : evE o c ρ S = .ok (.bl x) S1) (hx : x = true) (hr : evSs o a ρ S1 = .exc k as ρ' S') : evSs o (.ifs c a b :: ss) ρ S = .exc k as ρ' S' := by
  rw [evSs_cons, sif_t h hx hr]; rfl
theorem sif_fe {o : Orc} {ρ : Env} {S S1 : Store} {c : C} {a b ss : List MK.S} {x : Bool} {k : Nat} {as : List PV} {ρ' : Env} {S' : Store} (h : evE o c ρ S = .ok (.bl x) S1) (hx : x = false) (hr : evSs o b ρ S1 = .exc k as ρ' S') : evSs o (.ifs c a b :: ss) ρ S = .exc k as ρ' S' := by
  rw [evSs_cons, sif_f h hx hr]; rfl
section
variable {S : Store} {d : D}
/-- way 0, 1: no deed -/
theorem err0 (n : Nat) (S : Store) {v : PV} (h : callF fuel fns n 7 [v] S = .ok (.bl false) S) : callF fuel fns (n + 2) 20 [.int 0, v] S = .ok (.str kDeed) S := by
  refine call_t (F := f__law_error) rfl rfl rfl rfl ?_ rfl
  rw [err_body]
  have hc : callF fuel fns (n + 1) 9 [v] S = .exc 0 [] S := call_ex (F := f_words_of) (ρ := [some v]) rfl rfl rfl rfl (sif_te (gnot (x := false) (gcall (gcons (gvar rfl) gnil) h)) rfl sraise)
  have hb : evSs (o (n + 1)) tryB [some (.int 0), some v, none] S = .exc 0 [] [some (.int 0), some v, none] S := sif_te (gcmp (gvar rfl) (glit _) (c_eq_int _ _ _)) rfl (sx_exc (gcall (gcons (gvar rfl) gnil) hc))
  exact send (try_exc hb)
theorem err1 (n : Nat) (S : Store) {v : PV} (h : callF fuel fns n 7 [v] S = .ok (.bl false) S) : callF fuel fns (n + 2) 20 [.int 1, v] S = .ok (.str kDeed) S := by
  refine call_t (F := f__law_error) rfl rfl rfl rfl ?_ rfl
  rw [err_body]
  have hc : callF fuel fns (n + 1) 12 [v] S = .exc 0 [] S := call_ex (F := f_begun) (ρ := [some v]) rfl rfl rfl rfl (sif_te (gnot (x := false) (gcall (gcons (gvar rfl) gnil) h)) rfl sraise)
  have hb : evSs (o (n + 1)) tryB [some (.int 1), some v, none] S = .exc 0 [] [some (.int 1), some v, none] S := sif_fe (gcmp (gvar rfl) (glit _) (c_eq_int _ _ _)) rfl (sif_te (gcmp (gvar rfl) (glit _) (c_eq_int _ _ _)) rfl (sx_exc (gcall (gcons (gvar rfl) gnil) hc)))
  exact send (try_exc hb)
theorem fin_trunc_exc : True := trivial
/-- way 2, with a fault -/
theorem err2_no (n : Nat) (S : Store) {v w : PV} (h : ∀ S, callF fuel fns n 11 [v] S = .ok w S) (hw : w ≠ .non) : callF fuel fns (n + 2) 20 [.int 2, v] S = .ok (.str kHalf) S := by
  refine call_tr (F := f__law_error) (X := [.dic [] []]) rfl rfl rfl rfl ?_ rfl
  rw [err_body]
  have hc := gone_no (S := S ++ [.dic [] []]) n (k := .ref S.length) (h _) hw
  have hb : evSs (o (n + 1)) tryB [some (.int 2), some v, none] S = .exc 1 [] [some (.int 2), some v, none] (S ++ [.dic [] []]) := sif_fe (gcmp (gvar rfl) (glit _) (c_eq_int _ _ _)) rfl (sif_fe (gcmp (gvar rfl) (glit _) (c_eq_int _ _ _)) rfl (sx_exc (gcall (gcons (gvar rfl) (gcons (gdlit (ks := []) (vs := []) gnil rfl (by decide)) gnil)) hc)))
  exact send (try_exc hb)
/-- way 2, without -/
theorem err2_ok (n : Nat) (hF : Flat S) (F : Fine d) {p : Nat} {pile needs : List (List Nat)} (hn : needs.length < 500) (P : Pl d p pile) (hs : (tX pile).all (lets 0 40) = true) (hnn : (tX needs).all (lets 1 8) = true) (hk : needs.length ≤ (keysOf (tX needs) []).length) : callF fuel fns (n + 11) 20 [.int 2, .tup [d.enc, .int (p : Int), .tup (tX pile), .tup (tX needs)]] S = .ok (.str kNone) S := by
  refine call_tr (F := f__law_error) (X := [.dic [] []]) rfl rfl rfl rfl ?_ rfl
  rw [err_body]
  have O : Ok (S ++ [.dic [] []]) d S.length := ⟨flat_app hF (flat_one fun k => rfl), by rw [List.getElem?_append_right (Nat.le_refl _), Nat.sub_self]; rfl, F⟩
  obtain ⟨v, _, hc⟩ := gone_ok n O hn P hs hnn hk
  have hb : evSs (o (n + 10)) tryB [some (.int 2), some (.tup [d.enc, .int (p : Int), .tup (tX pile), .tup (tX needs)]), none] S = .next [some (.int 2), some (.tup [d.enc, .int (p : Int), .tup (tX pile), .tup (tX needs)]), none] (S ++ [.dic [] []]) := sseq (sif_f (gcmp (gvar rfl) (glit _) (c_eq_int _ _ _)) rfl (sseq (sif_f (gcmp (gvar rfl) (glit _) (c_eq_int _ _ _)) rfl (sseq (sex (gcall (gcons (gvar rfl) (gcons (gdlit (ks := []) (vs := []) gnil rfl (by decide)) gnil)) hc)) s0)) s0)) s0
  exact sseq (try_next hb) (sret (glit _))
theorem begun_ok (m : Nat) (d : D) (S : Store) (F : Fine d) (hm : 8 ≤ m) : callF fuel fns m 12 [d.enc] S = .ok (.tup [d.enc, .int 0, .tup [], .tup []]) S := by
  obtain ⟨n, rfl⟩ : ∃ j, m = j + 1 := ⟨m - 1, by omega⟩
  have h1 := F.dep
  have h2 := F.cnt
  refine call_t (F := f_begun) rfl rfl rfl rfl (sseq (sif_f (gnot (x := true) (gcall (gcons (gvar rfl) gnil) (deed_ok n d S F.ok (by omega) (by omega) (by omega)))) rfl s0) (sret (gtup (gcons (gvar rfl) (gcons (glit _) (gcons (gtup gnil (by decide)) (gcons (gtup gnil (by decide)) gnil)))) (by show 4 ≤ SZ; decide)))) ?_
  show PV.plainAll 59 [d.enc, .int 0, .tup [], .tup []] = true
  have := d.plain_enc 59 (by omega)
  simp only [PV.plainAll, PV.plain, this, Bool.and_self]
end
/-! ### drawn deeds -/
def NM : PV := .lst [.str [97], .str [98], .str [115]]
def NMl : List PV := [.str [97], .str [98], .str [115]]
def cntB : Nat → Nat
  | 0 => 1
  | 1 => 5
  | 2 => 13
  | _ => 29
theorem ix_some (xs : List PV) (k : Nat) (h : k < xs.length) : ∃ v, xs[k]? = some v ∧ v ∈ xs := ⟨xs[k], List.getElem?_eq_getElem h, List.getElem_mem h⟩
theorem sub_one (S : Store) (a : Nat) : evBin S .sub (.int ((a + 1 : Nat) : Int)) (.int 1) = some (.int (a : Int)) := by
  show some (PV.int (((a + 1 : Nat) : Int) - 1)) = _
  congr 2
  omega
theorem law_deed_ok {ds : List Int} (hd : okD ds) (hl : ds.length = 60) : ∀ (deep : Nat), deep ≤ 3 → ∀ (m at_ : Nat) (S : Store), deep + 2 ≤ m → ∃ d : D, d.ok ∧ d.dep ≤ deep ∧ d.cnt ≤ cntB deep ∧ callF fuel fns m 15 [.lst (ds.map .int), .int (at_ : Int), NM, .int (deep : Int)] S = .ok d.enc S := by
  intro deep
  induction deep using Nat.strongRecOn with
  | ind deep ih =>
    intro h3 m at_ S hm
    obtain ⟨n, rfl⟩ : ∃ j, m = j + 1 := ⟨m - 1, by omega⟩
    have fin : ∀ d : D, d.ok → d.dep ≤ deep → d.cnt ≤ cntB deep → evSs (o n) b__law_deed [some (.lst (ds.map .int)), some (.int (at_ : Int)), some NM, some (.int (deep : Int)), none, none, none, none, none] S = .ret d.enc S → ∃ d : D, d.ok ∧ d.dep ≤ deep ∧ d.cnt ≤ cntB deep ∧ callF fuel fns (n + 1) 15 [.lst (ds.map .int), .int (at_ : Int), NM, .int (deep : Int)] S = .ok d.enc S := fun d h1 h2 h4 h => ⟨d, h1, h2, h4, call_t (F := f__law_deed) rfl rfl rfl rfl h (d.plain_enc 60 (by omega))⟩
    obtain ⟨dr, hdr⟩ := N.draw_at (o := o n) (S := S) (ρ := [some (.lst (ds.map .int)), some (.int (at_ : Int)), some NM, some (.int (deep : Int)), none, none, none, none, none]) (i := 0) (e := .bin .mod (.var 1) (.bi .len [.var 0])) (k := at_ % 60) (m := 60) rfl hd hl
      (gbin (gvar rfl) (gbi (gcons (gvar rfl) gnil) (by rw [b_len_lst, List.length_map, hl])) (N.mod_nat S at_ 60 (by decide))) (Nat.mod_lt _ (by decide))
    have s1 : evS (o n) (.asg (.nm 4) (.bi .int [.ix (.var 0) (.bin .mod (.var 1) (.bi .len [.var 0]))])) [some (.lst (ds.map .int)), some (.int (at_ : Int)), some NM, some (.int (deep : Int)), none, none, none, none, none] S = .next [some (.lst (ds.map .int)), some (.int (at_ : Int)), some NM, some (.int (deep : Int)), some (.int (dr : Int)), none, none, none, none] S := sasg hdr (by show 4 < 9; decide)
    have s2 : ∃ k : Nat, (deep = 0 → k < 3) ∧ k < 10 ∧ evS (o n) (.asg (.nm 5) (.bin .mod (.var 4) (.ite (.cmp .eq (.var 3) (.lit (.int 0))) (.lit (.int 3)) (.lit (.int 10))))) [some (.lst (ds.map .int)), some (.int (at_ : Int)), some NM, some (.int (deep : Int)), some (.int (dr : Int)), none, none, none, none] S = .next [some (.lst (ds.map .int)), some (.int (at_ : Int)), some NM, some (.int (deep : Int)), some (.int (dr : Int)), some (.int (k : Int)), none, none, none] S := by
      have hc := gcmp (op := .eq) (o := o n) (ρ := [some (.lst (ds.map .int)), some (.int (at_ : Int)), some NM, some (.int (deep : Int)), some (.int (dr : Int)), none, none, none, none]) (S := S) (gvar (i := 3) rfl) (glit (.int 0)) (c_eq_int _ _ _)
      by_cases h0 : deep = 0
      · refine ⟨dr % 3, fun _ => Nat.mod_lt _ (by decide), by have := Nat.mod_lt dr (show 0 < 3 by decide); omega, sasg (gbin (gvar rfl) (gite_t hc (by subst h0; rfl) (glit _)) (N.mod_nat S dr 3 (by decide))) (by show 5 < 9; decide)⟩
      · refine ⟨dr % 10, fun h => absurd h h0, Nat.mod_lt _ (by decide), sasg (gbin (gvar rfl) (gite_f hc (beq_eq_false_iff_ne.mpr (by omega)) (glit _)) (N.mod_nat S dr 10 (by decide))) (by show 5 < 9; decide)⟩
    obtain ⟨k, hk0, hk10, s2⟩ := s2
    have ceq : ∀ (j : Int) (ρ : Env), ρ[5]? = some (some (.int (k : Int))) → evE (o n) (.cmp .eq (.var 5) (.lit (.int j))) ρ S = .ok (.bl ((k : Int) == j)) S := fun j ρ h => gcmp (gvar h) (glit _) (c_eq_int _ _ _)
    have clt : ∀ (j : Int) (ρ : Env), ρ[5]? = some (some (.int (k : Int))) → evE (o n) (.cmp .lt (.var 5) (.lit (.int j))) ρ S = .ok (.bl (decide ((k : Int) < j))) S := fun j ρ h => gcmp (gvar h) (glit _) rfl
    have dv : ∀ (q r : Nat) (z w : Int) (ρ : Env), z = (q : Int) → w = (r : Int) → 0 < q ∧ q < 1000 → 0 < r → ρ[4]? = some (some (.int (dr : Int))) → evE (o n) (.bin .mod (.bin .fdiv (.var 4) (.lit (.int z))) (.lit (.int w))) ρ S = .ok (.int ((dr / q % r : Nat) : Int)) S := fun q r z w ρ hz hw hq hr h => by
      subst hz hw
      exact gbin (gbin (gvar h) (glit _) (N.fdiv_nat S dr q ⟨hq.1, by omega⟩)) (glit _) (N.mod_nat S _ r hr)
    by_cases c0 : k = 0
    · subst c0
      obtain ⟨v, hv, hm⟩ := ix_some [.str [], .str [120], .str [97, 98], .str [98, 97], .str [98], .str [99], .str [122, 122]] (dr / 16 % 7) (Nat.mod_lt _ (by decide))
      have hvs : ∃ s, v = .str s ∧ letB s = true ∧ s.length ≤ 40 := by
        simp only [List.mem_cons, List.not_mem_nil, or_false] at hm
        rcases hm with rfl | rfl | rfl | rfl | rfl | rfl | rfl <;> exact ⟨_, rfl, by decide, by decide⟩
      obtain ⟨s, rfl, hs1, hs2⟩ := hvs
      refine fin (.text s) ⟨hs1, hs2⟩ (Nat.zero_le _) (by show 1 ≤ cntB deep; unfold cntB; split <;> decide) (sseq s1 (sseq s2 (send (sif_t (ceq 0 _ rfl) rfl (sret (gtup (gcons (glit _) (gcons (gix (glst (gcons (glit _) (gcons (glit _) (gcons (glit _) (gcons (glit _) (gcons (glit _) (gcons (glit _) (gcons (glit _) gnil))))))) (by show 7 ≤ SZ; decide)) (dv 16 7 16 7 _ rfl rfl (by decide) (by decide) rfl) (i_lst S _ _ hv)) gnil)) (by show 2 ≤ SZ; decide)))))))
    · have n0 : ((k : Int) == 0) = false := beq_eq_false_iff_ne.mpr (by omega)
      by_cases c3 : k < 3
      · obtain ⟨v, hv, hm⟩ := ix_some NMl (dr / 16 % 3) (Nat.mod_lt _ (by decide))
        have hvs : ∃ s, v = .str s ∧ letB s = true ∧ 1 ≤ s.length ∧ s.length ≤ 8 := by
          simp only [NMl, List.mem_cons, List.not_mem_nil, or_false] at hm
          rcases hm with rfl | rfl | rfl <;> exact ⟨_, rfl, by decide, by decide, by decide⟩
        obtain ⟨s, rfl, hs1, hs2, hs3⟩ := hvs
        have hix : evE (o n) (.ix (.var 2) (.bin .mod (.bin .fdiv (.var 4) (.lit (.int 16))) (.bi .len [.var 2]))) [some (.lst (ds.map .int)), some (.int (at_ : Int)), some NM, some (.int (deep : Int)), some (.int (dr : Int)), some (.int (k : Int)), none, none, none] S = .ok (.str s) S :=
          gix (gvar rfl) (gbin (gbin (gvar rfl) (glit _) (N.fdiv_nat S dr 16 (by decide))) (gbi (gcons (gvar rfl) gnil) (b_len_lst S NMl)) (N.mod_nat S _ 3 (by decide))) (i_lst S NMl _ hv)
        exact fin (.need s) ⟨hs1, hs2, hs3⟩ (Nat.zero_le _) (by show 1 ≤ cntB deep; unfold cntB; split <;> decide) (sseq s1 (sseq s2 (sseq (sif_f (ceq 0 _ rfl) n0 s0) (send (sif_t (clt 3 _ rfl) (decide_eq_true (by omega)) (sret (gtup (gcons (glit _) (gcons hix gnil)) (by show 2 ≤ SZ; decide))))))))
      · have n3 : decide ((k : Int) < 3) = false := decide_eq_false (by omega)
        obtain ⟨e, rfl⟩ : ∃ e, deep = e + 1 := ⟨deep - 1, by have : deep ≠ 0 := fun h => c3 (hk0 h); omega⟩
        have sub : ∀ (j : Nat) (dep : Nat), dep ≤ e → ∃ d : D, d.ok ∧ d.dep ≤ dep ∧ d.cnt ≤ cntB dep ∧ callF fuel fns n 15 [.lst (ds.map .int), .int (j : Int), NM, .int (dep : Int)] S = .ok d.enc S := fun j dep h => ih dep (by omega) (by omega) n j S (by omega)
        have arg : ∀ (j i : Nat) (z w : Int) (ρ : Env), z = (j : Int) → w = (i : Int) → j < 1000 → ρ[0]? = some (some (.lst (ds.map .int))) → ρ[1]? = some (some (.int (at_ : Int))) → ρ[2]? = some (some NM) → ρ[3]? = some (some (.int ((e + 1 : Nat) : Int))) → evEs (o n) [.var 0, .bin .add (.bin .mul (.lit (.int z)) (.var 1)) (.lit (.int w)), .var 2, .bin .sub (.var 3) (.lit (.int 1))] ρ S = .ok [.lst (ds.map .int), .int ((j * at_ + i : Nat) : Int), NM, .int (e : Int)] S := fun j i z w ρ hz hw hj h0 h1 h2 h3 => by
          subst hz hw
          exact gcons (gvar h0) (gcons (gbin (gbin (glit _) (gvar h1) (N.mul_nat S j at_ hj)) (glit _) (N.add_nat S _ _)) (gcons (gvar h2) (gcons (gbin (gvar h3) (glit _) (sub_one S e)) gnil)))
        have arg0 : ∀ (j i : Nat) (z w : Int) (ρ : Env), z = (j : Int) → w = (i : Int) → j < 1000 → ρ[0]? = some (some (.lst (ds.map .int))) → ρ[1]? = some (some (.int (at_ : Int))) → ρ[2]? = some (some NM) → evEs (o n) [.var 0, .bin .add (.bin .mul (.lit (.int z)) (.var 1)) (.lit (.int w)), .var 2, .lit (.int 0)] ρ S = .ok [.lst (ds.map .int), .int ((j * at_ + i : Nat) : Int), NM, .int ((0 : Nat) : Int)] S := fun j i z w ρ hz hw hj h0 h1 h2 => by
          subst hz hw
          exact gcons (gvar h0) (gcons (gbin (gbin (glit _) (gvar h1) (N.mul_nat S j at_ hj)) (glit _) (N.add_nat S _ _)) (gcons (gvar h2) (gcons (glit _) gnil)))
        obtain ⟨d1, ok1, dp1, ct1, e1⟩ := sub (3 * at_ + 1) e (Nat.le_refl _)
        have s6 : evS (o n) (.asg (.nm 6) (.call 15 [.var 0, .bin .add (.bin .mul (.lit (.int 3)) (.var 1)) (.lit (.int 1)), .var 2, .bin .sub (.var 3) (.lit (.int 1))])) [some (.lst (ds.map .int)), some (.int (at_ : Int)), some NM, some (.int ((e + 1 : Nat) : Int)), some (.int (dr : Int)), some (.int (k : Int)), none, none, none] S = .next [some (.lst (ds.map .int)), some (.int (at_ : Int)), some NM, some (.int ((e + 1 : Nat) : Int)), some (.int (dr : Int)), some (.int (k : Int)), some d1.enc, none, none] S := sasg (gcall (arg 3 1 3 1 _ rfl rfl (by decide) rfl rfl rfl rfl) e1) (by show 6 < 9; decide)
        have pre : ∀ {r : SOut} {ss : List MK.S}, b__law_deed = .asg (.nm 4) (.bi .int [.ix (.var 0) (.bin .mod (.var 1) (.bi .len [.var 0]))]) :: b__law_deed.tail → evSs (o n) (b__law_deed.drop 5) [some (.lst (ds.map .int)), some (.int (at_ : Int)), some NM, some (.int ((e + 1 : Nat) : Int)), some (.int (dr : Int)), some (.int (k : Int)), some d1.enc, none, none] S = r → evSs (o n) b__law_deed [some (.lst (ds.map .int)), some (.int (at_ : Int)), some NM, some (.int ((e + 1 : Nat) : Int)), none, none, none, none, none] S = r := fun _ h => sseq s1 (sseq s2 (sseq (sif_f (ceq 0 _ rfl) n0 s0) (sseq (sif_f (clt 3 _ rfl) n3 s0) (sseq s6 h))))
        have pre := fun {r : SOut} => pre (r := r) (ss := []) rfl
        have cb : 1 + (cntB e + cntB e + 1 + 1) ≤ cntB (e + 1) := by
          have : e = 0 ∨ e = 1 ∨ e = 2 := by omega
          rcases this with rfl | rfl | rfl <;> decide
        by_cases c5 : k < 5
        · obtain ⟨d2, ok2, dp2, ct2, e2⟩ := sub (3 * at_ + 2) e (Nat.le_refl _)
          exact fin (.join d1 d2) ⟨ok1, ok2⟩ (by simp only [D.dep]; omega) (by simp only [D.cnt]; omega) (pre (send (sif_t (clt 5 _ rfl) (decide_eq_true (by omega)) (sret (gtup (gcons (glit _) (gcons (gvar rfl) (gcons (gcall (arg 3 2 3 2 _ rfl rfl (by decide) rfl rfl rfl rfl) e2) gnil))) (by show 3 ≤ SZ; decide))))))
        · have n5 : decide ((k : Int) < 5) = false := decide_eq_false (by omega)
          by_cases c6 : k = 5
          · exact fin (.named d1) ok1 (by simp only [D.dep]; omega) (by simp only [D.cnt]; omega) (pre (sseq (sif_f (clt 5 _ rfl) n5 s0) (send (sif_t (ceq 5 _ rfl) (by subst c6; rfl) (sret (gtup (gcons (glit _) (gcons (gvar rfl) gnil)) (by show 2 ≤ SZ; decide)))))))
          · have n6 : ((k : Int) == 5) = false := beq_eq_false_iff_ne.mpr (by omega)
            by_cases c7 : k = 6
            · obtain ⟨v, hv, hm⟩ := ix_some [D.enc (.back d1), D.enc (.sort d1), D.enc (.head (dr / 16 % 3) d1), D.enc (.swap 97 98 d1)] (dr / 64 % 4) (Nat.mod_lt _ (by decide))
              have hvd : ∃ d : D, v = d.enc ∧ d.ok ∧ d.dep ≤ e + 1 ∧ d.cnt ≤ cntB (e + 1) := by
                have hh : dr / 16 % 3 ≤ 40 := by have := Nat.mod_lt (dr / 16) (show 0 < 3 by decide); omega
                simp only [List.mem_cons, List.not_mem_nil, or_false] at hm
                rcases hm with rfl | rfl | rfl | rfl
                · exact ⟨.back d1, rfl, ok1, by simp only [D.dep]; omega, by simp only [D.cnt]; omega⟩
                · exact ⟨.sort d1, rfl, ok1, by simp only [D.dep]; omega, by simp only [D.cnt]; omega⟩
                · exact ⟨.head _ d1, rfl, ⟨hh, ok1⟩, by simp only [D.dep]; omega, by simp only [D.cnt]; omega⟩
                · exact ⟨.swap 97 98 d1, rfl, ⟨by decide, by decide, ok1⟩, by simp only [D.dep]; omega, by simp only [D.cnt]; omega⟩
              obtain ⟨d, rfl, h1, h2, h4⟩ := hvd
              exact fin d h1 h2 h4 (pre (sseq (sif_f (clt 5 _ rfl) n5 s0) (sseq (sif_f (ceq 5 _ rfl) n6 s0) (send (sif_t (ceq 6 _ rfl) (by subst c7; rfl) (sret (gix (glst (gcons (gtup (gcons (glit _) (gcons (gvar rfl) gnil)) (by show 2 ≤ SZ; decide)) (gcons (gtup (gcons (glit _) (gcons (gvar rfl) gnil)) (by show 2 ≤ SZ; decide)) (gcons (gtup (gcons (glit _) (gcons (dv 16 3 16 3 _ rfl rfl (by decide) (by decide) rfl) (gcons (gvar rfl) gnil))) (by show 3 ≤ SZ; decide)) (gcons (gtup (gcons (glit _) (gcons (glit _) (gcons (glit _) (gcons (gvar rfl) gnil)))) (by show 4 ≤ SZ; decide)) gnil)))) (by show 4 ≤ SZ; decide)) (dv 64 4 64 4 _ rfl rfl (by decide) (by decide) rfl) (i_lst S _ _ hv))))))))
            · have n7 : ((k : Int) == 6) = false := beq_eq_false_iff_ne.mpr (by omega)
              by_cases c9 : k < 9
              · obtain ⟨d2, ok2, dp2, ct2, e2⟩ := sub (3 * at_ + 2) e (Nat.le_refl _)
                obtain ⟨d3, ok3, dp3, ct3, e3⟩ := sub (5 * at_ + 3) 0 (Nat.zero_le _)
                obtain ⟨d4, ok4, dp4, ct4, e4⟩ := sub (5 * at_ + 4) 0 (Nat.zero_le _)
                have c03 : d3.cnt ≤ 1 := ct3
                have c04 : d4.cnt ≤ 1 := ct4
                exact fin (.same d1 d2 d3 d4) ⟨ok1, ok2, ok3, ok4⟩ (by simp only [D.dep]; omega) (by simp only [D.cnt]; omega) (pre (sseq (sif_f (clt 5 _ rfl) n5 s0) (sseq (sif_f (ceq 5 _ rfl) n6 s0) (sseq (sif_f (ceq 6 _ rfl) n7 s0) (send (sif_t (clt 9 _ rfl) (decide_eq_true (by omega)) (sseq (stp (gtup (gcons (gcall (arg 3 2 3 2 _ rfl rfl (by decide) rfl rfl rfl rfl) e2) (gcons (gcall (arg0 5 3 5 3 _ rfl rfl (by decide) rfl rfl rfl) e3) gnil)) (by show 2 ≤ SZ; decide)) rfl) (sret (gtup (gcons (glit _) (gcons (gvar rfl) (gcons (gvar rfl) (gcons (gvar rfl) (gcons (gcall (arg0 5 4 5 4 _ rfl rfl (by decide) rfl rfl rfl) e4) gnil))))) (by show 5 ≤ SZ; decide))))))))))
              · exact fin (.head 1 d1) ⟨by decide, ok1⟩ (by simp only [D.dep]; omega) (by simp only [D.cnt]; omega) (pre (sseq (sif_f (clt 5 _ rfl) n5 s0) (sseq (sif_f (ceq 5 _ rfl) n6 s0) (sseq (sif_f (ceq 6 _ rfl) n7 s0) (sseq (sif_f (clt 9 _ rfl) (decide_eq_false (by omega)) s0) (sret (gtup (gcons (glit _) (gcons (glit _) (gcons (gvar rfl) gnil))) (by show 3 ≤ SZ; decide))))))))
theorem law_draws_eq (n : Nat) (ns : List Int) (S : Store) : ∃ ds : List Int, ds.length = 60 ∧ okD ds ∧ callF fuel fns (n + 1) 14 [.lst (ns.map .int), .int 60] S = .ok (.lst (ds.map .int)) S := by
  have e : callF fuel fns (n + 1) 14 [.lst (ns.map .int), .int 60] S = fin true S (evSs (o n) bDraws [some (.lst (ns.map .int)), some (.int 60), none, none, none, none, none] S) := rfl
  rw [e]
  exact draws_fin (o n) S ns 60 (by decide)
end K12

set_option linter.all false
set_option autoImplicit false
set_option maxRecDepth 100000
set_option maxHeartbeats 4000000
namespace K12
open MK MK.A
/-! ### loops -/
theorem run_all {o : Orc} {i : Nat} {b : List MK.S} {S : Store} (P : Env → Prop) : ∀ (l : List PV) (ρ : Env), P ρ → (∀ x ∈ l, ∀ ρ, P ρ → i < ρ.length ∧ ∃ ρ', evSs o b (ρ.set i (some x)) S = .next ρ' S ∧ P ρ') → ∃ ρ', forL (turn o (.nm i) b) l ρ S = .next ρ' S ∧ P ρ'
  | [], ρ, h, _ => ⟨ρ, rfl, h⟩
  | x :: l, ρ, h, hs => by
    obtain ⟨hl, ρ1, e1, h1⟩ := hs x List.mem_cons_self ρ h
    obtain ⟨ρ2, e2, h2⟩ := run_all P l ρ1 h1 fun y hy => hs y (List.mem_cons_of_mem _ hy)
    refine ⟨ρ2, ?_, h2⟩
    unfold forL
    rw [turn_nm _ _ _ hl, e1]
    exact e2
theorem for_seqA {o : Orc} {i : Nat} {e : C} {b : List MK.S} {ρ : Env} {S S1 : Store} {v : PV} {l : List PV} (P : Env → Prop) (he : evE o e ρ S = .ok v S1) (hw : walkOf S1 v = some (l, none)) (h0 : P ρ) (hs : ∀ x ∈ l, ∀ ρ, P ρ → i < ρ.length ∧ ∃ ρ', evSs o b (ρ.set i (some x)) S1 = .next ρ' S1 ∧ P ρ') : ∃ ρ', evS o (.for_ (.nm i) (.seq e) b) ρ S = .next ρ' S1 ∧ P ρ' := by
  obtain ⟨ρ', e1, h⟩ := run_all P l ρ h0 hs
  refine ⟨ρ', ?_, h⟩
  rw [evS_for, it_seq he hw, Out.toS_ok, forK, forW_free rfl]
  exact e1
theorem for_rngA {o : Orc} {i : Nat} {es : List C} {b : List MK.S} {ρ : Env} {S : Store} {vs : List PV} {l : List PV} (P : Env → Prop) (he : evEs o es ρ S = .ok vs S) (hw : rngOf vs = some (l, none)) (h0 : P ρ) (hs : ∀ x ∈ l, ∀ ρ, P ρ → i < ρ.length ∧ ∃ ρ', evSs o b (ρ.set i (some x)) S = .next ρ' S ∧ P ρ') : ∃ ρ', evS o (.for_ (.nm i) (.rng es) b) ρ S = .next ρ' S ∧ P ρ' := by
  obtain ⟨ρ', e1, h⟩ := run_all P l ρ h0 hs
  refine ⟨ρ', ?_, h⟩
  rw [evS_for, evIt_rng, he, Out.bind_ok, hw, lift_some, Out.toS_ok, forK, forW_free rfl]
  exact e1
/-! ### a value is looked at -/
/-- both say the same of it, and it is refused just if it has a fault -/
def GoodV (v : PV) (St : Store) : Prop := ∃ w : PV, w.plain 60 = true ∧ (∀ S, callF fuel fns 17 19 [v] S = .ok w S) ∧ (∀ S, callF fuel fns 17 11 [v] S = .ok w S) ∧ ((w ≠ .non ∧ callF fuel fns 17 20 [.int 2, v] St = .ok (.str kHalf) St) ∨ (w = .non ∧ callF fuel fns 17 20 [.int 2, v] St = .ok (.str kNone) St))
section
variable {d : D} {St : Store}
theorem good_bad (F : Fine d) {x1 x2 x3 : PV} (h1 : scal x1 = true) (h2 : Arg x2) (h3 : Arg x3) (hb : hf d x1 x2 x3 ≠ .non) : GoodV (.tup [d.enc, x1, x2, x3]) St :=
  ⟨hf d x1 x2 x3, hf_plain d x1 x2 x3, fun S => due_ok 8 d S F h1 h2 h3, fun S => half_ok 8 d S F h1 h2 h3, .inl ⟨hb, err2_no 15 St (fun S => half_ok 6 d S F h1 h2 h3) hb⟩⟩
theorem good_no {v : PV} (h : isTy [] .tuple v = some false ∧ (∀ S, isTy S .tuple v = some false) ∨ ∃ l, v = .tup l ∧ (l.length ≠ 4 ∨ ∃ a b c e, l = [a, b, c, e] ∧ ∀ n S, callF fuel fns (n + 10) 7 [a] S = .ok (.bl false) S)) : GoodV v St := by
  have g : ∀ n S, isTy S .tuple v = some false ∨ ∃ l, v = .tup l ∧ (l.length ≠ 4 ∨ ∃ a b c e, l = [a, b, c, e] ∧ callF fuel fns (n + 10) 7 [a] S = .ok (.bl false) S) := fun n S => by
    rcases h with h | ⟨l, e, h | ⟨a, b, c, f, e2, h⟩⟩
    · exact .inl (h.2 S)
    · exact .inr ⟨l, e, .inl h⟩
    · exact .inr ⟨l, e, .inr ⟨a, b, c, f, e2, h n S⟩⟩
  exact ⟨FORM, rfl, fun S => due_no 16 v S (g 6 S), fun S => half_no 16 v S (g 6 S), .inl ⟨(fun e => by cases e), err2_no 15 St (fun S => half_no 14 v S (g 4 S)) (fun e => by cases e)⟩⟩
theorem hf_form1 {x1 x2 x3 : PV} (h : ∀ p, x1 ≠ .int p) : hf d x1 x2 x3 = FORM := by
  unfold hf
  split
  · rename_i p pile needs
    exact absurd rfl (h p)
  · rfl
theorem hf_form2 {p : Int} {pile needs : List PV} (h : (pile.all (lets 0 40) && (needs.all (lets 1 8) && decide (needs.length ≤ (keysOf needs []).length))) = false) : hf d (.int p) (.tup pile) (.tup needs) = FORM := by
  show (if _ = true then _ else FORM) = _
  rw [h, if_neg (by decide)]
theorem form_ne : FORM ≠ .non := fun e => by cases e
theorem good_ok (F : Fine d) (hF : Flat St) {p : Nat} {pile needs : List (List Nat)} (hn : needs.length < 500) (P : Pl d p pile) (hs : (tX pile).all (lets 0 40) = true) (hnn : (tX needs).all (lets 1 8) = true) (hk : needs.length ≤ (keysOf (tX needs) []).length) (hnl : (tX needs).all scal = true) : GoodV (.tup [d.enc, .int (p : Int), .tup (tX pile), .tup (tX needs)]) St := by
  have hz : hf d (.int (p : Int)) (.tup (tX pile)) (.tup (tX needs)) = .non := by
    show (if ((tX pile).all (lets 0 40) && ((tX needs).all (lets 1 8) && decide ((tX needs).length ≤ (keysOf (tX needs) []).length))) = true then (if 0 ≤ (p : Int) ∧ (p : Int).toNat ≤ (Ws d).length then (if ((tX pile).length : Int) = dl (Ws d) (p : Int).toNat then PV.non else _) else _) else _) = _
    rw [if_pos (by rw [hs, hnn, decide_eq_true (by rw [show (tX needs).length = needs.length from by simp [tX]]; exact hk)]; rfl), if_pos ⟨by omega, by have := P.le; rw [Int.toNat_natCast]; exact this⟩, Int.toNat_natCast, if_pos (by rw [show (tX pile).length = pile.length from by simp [tX]]; exact P.len)]
  have hWl := (Ws_len d).1
  have hcn := F.cnt
  have hdl := dl_le (Ws d) p P.le
  have hpl := P.len
  have hple := P.le
  have a2 : Arg (.tup (tX pile)) := .tup _ (List.all_eq_true.mpr fun x hx => by
    obtain ⟨s, hs, rfl⟩ := List.mem_map.mp hx
    exact decide_eq_true (by have := P.short s hs; unfold SZ; omega)) (by unfold tX; rw [List.length_map]; omega)
  have a3 : Arg (.tup (tX needs)) := .tup _ hnl (by unfold tX; rw [List.length_map]; omega)
  have h1 := fun S => due_ok 8 d S F (x1 := .int (p : Int)) rfl a2 a3
  have h2 := fun S => half_ok 8 d S F (x1 := .int (p : Int)) rfl a2 a3
  rw [hz] at h1 h2
  exact ⟨.non, rfl, h1, h2, .inr ⟨rfl, err2_ok 6 hF F hn P hs hnn hk⟩⟩
end
end K12

set_option linter.all false
set_option autoImplicit false
set_option maxRecDepth 100000
set_option maxHeartbeats 4000000
namespace K12
open MK MK.A
/-! ### the law's names -/
def Kd (A : List (Nat × PV)) (ρ : Env) : Prop := ρ.length = 15 ∧ ∀ (k i : Nat) (v : PV), A[k]? = some (i, v) → ρ[i]? = some (some v)
theorem Kd.set {A : List (Nat × PV)} {ρ : Env} (h : Kd A ρ) {i : Nat} (x : Option PV) (hi : (A.all fun p => p.1 != i) = true) : Kd A (ρ.set i x) := by
  refine ⟨by rw [List.length_set]; exact h.1, fun k j v hk => ?_⟩
  have := List.all_eq_true.mp hi (j, v) (List.mem_of_getElem? hk)
  have hne : i ≠ j := fun e => by subst e; simp at this
  rw [List.getElem?_set_ne hne]
  exact h.2 k j v hk
theorem Kd.put {A : List (Nat × PV)} {ρ : Env} (h : Kd A ρ) {i : Nat} (x : PV) (hi : (A.all fun p => p.1 != i) = true) (hl : i < 15) : Kd ((i, x) :: A) (ρ.set i (some x)) := by
  refine ⟨by rw [List.length_set]; exact h.1, fun k j v hk => ?_⟩
  cases k with
  | zero =>
    cases hk
    rw [List.getElem?_set_self (by rw [h.1]; exact hl)]
  | succ k => exact (h.set (some x) hi).2 k j v (by simpa using hk)
theorem Kd.cut {A : List (Nat × PV)} {ρ : Env} {p : Nat × PV} (h : Kd (p :: A) ρ) : Kd A ρ := ⟨h.1, fun k i v hk => h.2 (k + 1) i v (by simpa using hk)⟩
theorem kv {n : Nat} {S : Store} {A : List (Nat × PV)} {ρ : Env} (h : Kd A ρ) (k : Nat) {i : Nat} {v : PV} (hk : A[k]? = some (i, v)) : evE (o n) (.var i) ρ S = .ok v S := gvar (h.2 k i v hk)
/-! ### the parts of its text -/
def tB : List MK.S := match b_law with
  | [_, .for_ _ _ b, _, _, _] => b
  | _ => []
def pB : List MK.S := match tB with
  | [_, _, _, _, .for_ _ _ b, _, _, _, _, _] => b
  | _ => []
def iB : List MK.S := match pB with
  | [_, .for_ _ _ b] => b
  | _ => []
def vB : List MK.S := match tB with
  | [_, _, _, _, _, _, _, _, .for_ _ _ b, _] => b
  | _ => []
def wB : List MK.S := match tB with
  | [_, _, _, _, _, _, _, _, _, .for_ _ _ b] => b
  | _ => []
theorem ne_same {S : Store} {v : PV} (h : v.plain 60 = true) : evCmp S .ne v v = some false := cmp_ne_same h
section
variable {d : D} {St : Store} {ρ : Env}
theorem iB_ok (F : Fine d) {A : List (Nat × PV)} {z : Int} {pile : List PV} (h : Kd A ρ) (k4 : ∃ k : Nat, A[k]? = some (4, d.enc)) (k7 : ∃ k : Nat, A[k]? = some (7, PV.int z)) (k13 : ∃ k : Nat, A[k]? = some (13, PV.tup pile)) (k10 : (A.all fun p => p.1 != 10) = true) (hp : pile.all scal = true) (hl : pile.length ≤ 1000) : ∃ ρ', evSs (o 17) iB ρ St = .next ρ' St ∧ Kd A ρ' := by
  obtain ⟨a, k4⟩ := k4
  obtain ⟨b, k7⟩ := k7
  obtain ⟨c, k13⟩ := k13
  have hA : Arg (.tup [.str [97], .str [115]]) := .tup _ rfl (by decide)
  have h1 := due_ok 8 d St F (x1 := .int z) (x3 := .tup [.str [97], .str [115]]) rfl (.tup pile hp hl) hA
  have h2 := half_ok 8 d St F (x1 := .int z) (x3 := .tup [.str [97], .str [115]]) rfl (.tup pile hp hl) hA
  refine ⟨_, sseq (sasg (v := .tup [d.enc, .int z, .tup pile, .tup [.str [97], .str [115]]]) (gtup (gcons (kv h a k4) (gcons (kv h b k7) (gcons (kv h c k13) (gcons (gtup (gcons (glit _) (gcons (glit _) gnil)) (by show 2 ≤ SZ; decide)) gnil)))) (by show 4 ≤ SZ; decide)) (by rw [h.1]; decide)) (sseq (sif_f (x := false) (gcmp (gcall (gcons (gvar (by rw [List.getElem?_set_self (by rw [h.1]; decide)])) gnil) h2) (gcall (gcons (gvar (by rw [List.getElem?_set_self (by rw [h.1]; decide)])) gnil) h1) (ne_same (hf_plain _ _ _ _))) rfl s0) s0), h.set _ k10⟩
theorem rep_one (n : Nat) (a : PV) : (List.replicate n [a]).flatten = List.replicate n a := by
  induction n with
  | zero => rfl
  | succ n ih => rw [List.replicate_succ, List.flatten_cons, ih, List.replicate_succ]; rfl
theorem mul_one_ (S : Store) (a : PV) (z : Int) (h : 0 ≤ z ∧ z ≤ 1000) : evBin S .mul (.tup [a]) (.int z) = some (.tup (List.replicate z.toNat a)) := by
  show (if 0 ≤ z ∧ z ≤ 1000 ∧ [a].length ≤ 1000 then some (PV.tup (List.replicate z.toNat [a]).flatten) else none) = _
  rw [if_pos ⟨h.1, h.2, by show 1 ≤ 1000; decide⟩, rep_one]
theorem rep_scal (n : Nat) (s : List Nat) (h : s.length ≤ 100) : (List.replicate n (PV.str s)).all scal = true := List.all_eq_true.mpr fun x hx => by
  rw [(List.mem_replicate.mp hx).2]
  exact decide_eq_true (by unfold SZ; omega)
/-- what stands at the names in a turn -/
def A0 (ds : PV) (d : D) (n0 : Nat) : List (Nat × PV) := [(1, ds), (4, d.enc), (5, .tup ((Ws d).map Wd.enc)), (6, .ref n0)]
theorem pB_ok (F : Fine d) {ds : PV} {S0 X : Store} {ps : List Nat} {z : Int} (A : All (Ws d) ps) (h : Kd ((7, .int z) :: A0 ds d S0.length) ρ) : ∃ ρ', evSs (o 17) pB ρ (S0 ++ [dic (Ws d) ps] ++ X) = .next ρ' (S0 ++ [dic (Ws d) ps] ++ X) ∧ Kd (A0 ds d S0.length) ρ' := by
  have hWl := (Ws_len d).1
  have hcn := F.cnt
  obtain ⟨mn, hmn, hget⟩ : ∃ mn : Nat, mn ≤ 200 ∧ ((if 0 ≤ z ∧ z.toNat ∈ ps then some (PV.int (dl (Ws d) z.toNat)) else none).getD (.int 1) = .int (mn : Int)) := by
    by_cases hz : 0 ≤ z ∧ z.toNat ∈ ps
    · rw [if_pos hz]
      have h1 := (A.all _).mp hz.2
      have h2 := dl_nonneg d _ h1
      have h3 := dl_le (Ws d) _ h1
      exact ⟨(dl (Ws d) z.toNat).toNat, by omega, by show PV.int _ = _; congr 1; omega⟩
    · rw [if_neg hz]
      exact ⟨1, by decide, rfl⟩
  have hD : isDic (S0 ++ [dic (Ws d) ps] ++ X) (.ref S0.length) = true := by
    show (match (S0 ++ [dic (Ws d) ps] ++ X)[S0.length]? with | some (.dic ks vs) => some (ks, vs) | _ => none).isSome = _
    rw [at_dic]; rfl
  have e12 : evE (o 17) (.dget2 (.var 6) (.var 7) (.lit (.int 1))) ρ (S0 ++ [dic (Ws d) ps] ++ X) = .ok (.int (mn : Int)) (S0 ++ [dic (Ws d) ps] ++ X) := by
    rw [← hget]
    exact gdget2 (kv h 4 rfl) hD (kv h 0 rfl) (glit _) (get_ps z)
  have h12 := h.put (i := 12) (.int (mn : Int)) rfl (by decide)
  have eT : evE (o 17) (.tup [.bin .mul (.tup [.lit (.str [120])]) (.var 12), .bin .mul (.tup [.lit (.str [97, 98])]) (.bin .add (.var 12) (.lit (.int 1))), .bin .mul (.tup [.lit (.str [])]) (.bi .max2 [.lit (.int 0), .bin .sub (.var 12) (.lit (.int 1))])]) (ρ.set 12 (some (.int (mn : Int)))) (S0 ++ [dic (Ws d) ps] ++ X) = .ok (.tup [.tup (List.replicate ((mn : Int)).toNat (.str [120])), .tup (List.replicate ((mn : Int) + 1).toNat (.str [97, 98])), .tup (List.replicate (if (0 : Int) < (mn : Int) - 1 then (mn : Int) - 1 else 0).toNat (.str []))]) (S0 ++ [dic (Ws d) ps] ++ X) :=
    gtup (gcons (gbin (gtup (gcons (glit _) gnil) (by show 1 ≤ SZ; decide)) (kv h12 0 rfl) (mul_one_ _ _ _ (by omega))) (gcons (gbin (gtup (gcons (glit _) gnil) (by show 1 ≤ SZ; decide)) (gbin (kv h12 0 rfl) (glit (.int 1)) rfl) (mul_one_ _ _ _ (by omega))) (gcons (gbin (gtup (gcons (glit _) gnil) (by show 1 ≤ SZ; decide)) (gbi (gcons (glit (.int 0)) (gcons (gbin (kv h12 0 rfl) (glit (.int 1)) rfl) gnil)) (max_int _ _ _)) (mul_one_ _ _ _ (by split <;> omega))) gnil))) (by show 3 ≤ SZ; decide)
  obtain ⟨ρ', e2, h2⟩ := for_seqA (o := o 17) (i := 13) (b := iB) (ρ := ρ.set 12 (some (.int (mn : Int)))) (fun ρ => Kd ((12, .int (mn : Int)) :: (7, .int z) :: A0 ds d S0.length) ρ) eT (wk_tup _) h12 (fun x hx ρ hρ => by
    have hxp : ∃ pile : List PV, x = .tup pile ∧ pile.all scal = true ∧ pile.length ≤ 1000 := by
      simp only [List.mem_cons, List.not_mem_nil, or_false] at hx
      rcases hx with rfl | rfl | rfl
      · exact ⟨_, rfl, rep_scal _ _ (by decide), by rw [List.length_replicate]; omega⟩
      · exact ⟨_, rfl, rep_scal _ _ (by decide), by rw [List.length_replicate]; omega⟩
      · exact ⟨_, rfl, rep_scal _ _ (by decide), by rw [List.length_replicate]; split <;> omega⟩
    obtain ⟨pile, rfl, hp, hl⟩ := hxp
    refine ⟨by rw [hρ.1]; decide, ?_⟩
    have h13 := hρ.put (i := 13) (.tup pile) rfl (by decide)
    obtain ⟨ρ', e, h'⟩ := iB_ok F (St := S0 ++ [dic (Ws d) ps] ++ X) h13 ⟨4, rfl⟩ ⟨2, rfl⟩ ⟨0, rfl⟩ rfl hp hl
    exact ⟨ρ', e, h'.cut⟩)
  exact ⟨ρ', sseq (sasg e12 (by rw [h.1]; decide)) (sseq e2 s0), h2.cut.cut⟩
/-- one value -/
theorem vB_ok {A : List (Nat × PV)} {v : PV} (g : GoodV v St) (h : Kd ((10, v) :: A) ρ) (k10 : (A.all fun p => p.1 != 14) = true) : ∃ ρ', evSs (o 17) vB ρ St = .next ρ' St ∧ Kd ((10, v) :: A) ρ' := by
  obtain ⟨w, hw, h1, h2, h3⟩ := g
  have h14 := h.put (i := 14) w (by rw [List.all_cons, k10]; rfl) (by decide)
  have c1 := gcmp (op := .ne) (gcall (f := 11) (gcons (kv (n := 17) (S := St) h14 1 rfl) gnil) (h2 St)) (kv (n := 17) (S := St) h14 0 rfl) (ne_same hw)
  have c2 : evE (o 17) (.cmp .ne (.cmp .eq (.call 20 [.lit (.int 2), .var 10]) (.lit (.str kHalf))) (.cmp .notN (.var 14) (.lit .non))) (ρ.set 14 (some w)) St = .ok (.bl false) St := by
    rcases h3 with ⟨hne, h3⟩ | ⟨rfl, h3⟩
    · exact gcmp (gcmp (gcall (gcons (glit _) (gcons (kv h14 1 rfl) gnil)) h3) (glit _) (c_eq_str _ _ _)) (gcmp (z := true) (kv h14 0 rfl) (glit .non) (by rw [notN_ok]; cases w <;> first | rfl | exact absurd rfl hne)) rfl
    · exact gcmp (gcmp (gcall (gcons (glit _) (gcons (kv h14 1 rfl) gnil)) h3) (glit _) (c_eq_str _ _ _)) (gcmp (z := false) (kv h14 0 rfl) (glit .non) rfl) rfl
  exact ⟨_, sseq (sasg (gcall (gcons (kv h 0 rfl) gnil) (h1 St)) (by rw [h.1]; decide)) (sseq (sif_f (gor_f c1 rfl (gor1 c2)) rfl s0) s0), h14.cut⟩
/-- one value that is no deed -/
theorem wB_ok {A : List (Nat × PV)} {v : PV} (g : ∀ n S, callF fuel fns (n + 10) 7 [v] S = .ok (.bl false) S) (h : Kd ((11, v) :: A) ρ) : evSs (o 17) wB ρ St = .next ρ St :=
  sseq (sif_f (gor_f (gcall (gcons (kv h 0 rfl) gnil) (g 7 St)) rfl (gor_f (gcmp (gcall (gcons (glit _) (gcons (kv h 0 rfl) gnil)) (err0 15 St (g 5 St))) (glit _) (c_ne_str _ _ _)) rfl (gor1 (gcmp (gcall (gcons (glit _) (gcons (kv h 0 rfl) gnil)) (err1 15 St (g 5 St))) (glit _) (c_ne_str _ _ _))))) rfl s0) s0
end
end K12

set_option linter.all false
set_option autoImplicit false
set_option maxRecDepth 100000
set_option maxHeartbeats 4000000
namespace K12
open MK MK.A
theorem Kd.sub {A B : List (Nat × PV)} {ρ : Env} (h : Kd A ρ) (hs : ∀ q ∈ B, q ∈ A) : Kd B ρ := ⟨h.1, fun k i v hk => by
  obtain ⟨j, hj⟩ := List.mem_iff_getElem?.mp (hs _ (List.mem_of_getElem? hk))
  exact h.2 j i v hj⟩
def X41 : List Nat := (List.replicate 41 [120]).flatten
def X40 : List Nat := (List.replicate 40 [120]).flatten
def base (d : D) : PV := .tup [d.enc, .int 0, .tup [], .tup [.str [97]]]
def V1 (d : D) : List PV := [base d, .lst [d.enc, .int 0, .tup [], .tup [.str [97]]], .tup [d.enc, .int 0, .tup []], .tup [d.enc, .int 0, .tup [], .tup [.str [97]], .int 0], .non, .int 7, .tup [.tup [.str [84, 101, 120, 116], .str [120]], .int 0, .tup [], .tup []],
  .tup [.lst (.str d.kind :: d.tl), .int 0, .tup [], .tup []], .tup [d.enc, .bl true, .tup [], .tup []], .tup [d.enc, .non, .tup [], .tup []], .tup [d.enc, .str [48], .tup [], .tup []]]
def V2 (d : D) : List PV := [.tup [d.enc, .int 0, .lst [], .tup []], .tup [d.enc, .int 0, .tup [], .lst []], .tup [d.enc, .int 0, .tup [.str [88]], .tup []], .tup [d.enc, .int 0, .tup [.str X41], .tup []], .tup [d.enc, .int 0, .tup [.non], .tup []], .tup [d.enc, .int 0, .tup [], .tup [.str [97], .str [97]]]]
def V3 (d : D) : List PV := [.tup [d.enc, .int 0, .tup [], .tup [.str []]], .tup [d.enc, .int 0, .tup [], .tup [.str [97, 98, 99, 100, 101, 102, 103, 104, 105]]], .tup [d.enc, .int 0, .tup [], .tup [.int 3]], .tup [d.enc, .int ((Ws d).length : Int), .tup [.str X40], .tup []]]
def W1 (d : D) : List PV := [.non, .tup [], .tup [.str kText], .tup [.str kNeed, .str []], .tup [.str kJoin, d.enc], .tup [.str kHead, .int 41, d.enc], .lst (.str d.kind :: d.tl), .int 7]
section
variable {d : D} {St : Store} {ρ : Env}
theorem good_all (F : Fine d) (hF : Flat St) : ∀ v ∈ V1 d ++ V2 d ++ V3 d, GoodV v St := by
  have a0 : Arg (.tup []) := .tup [] rfl (by decide)
  have bad2 : ∀ {p : Int} {pile needs : List PV}, Arg (.tup pile) → Arg (.tup needs) → (pile.all (lets 0 40) && (needs.all (lets 1 8) && decide (needs.length ≤ (keysOf needs []).length))) = false → GoodV (.tup [d.enc, .int p, .tup pile, .tup needs]) St := fun h1 h2 h => good_bad F rfl h1 h2 (by rw [hf_form2 h]; exact form_ne)
  have bad1 : ∀ {x : PV}, scal x = true → (∀ p, x ≠ .int p) → GoodV (.tup [d.enc, x, .tup [], .tup []]) St := fun hs hp => good_bad F hs a0 a0 (by rw [hf_form1 hp]; exact form_ne)
  intro v hv
  simp only [V1, V2, V3, List.cons_append, List.nil_append, List.mem_cons, List.not_mem_nil, or_false] at hv
  rcases hv with rfl | rfl | rfl | rfl | rfl | rfl | rfl | rfl | rfl | rfl | rfl | rfl | rfl | rfl | rfl | rfl | rfl | rfl | rfl | rfl | rfl
  · exact good_ok F hF (p := 0) (pile := []) (needs := [[97]]) (by decide) ⟨Nat.zero_le _, by rw [dl_zero]; rfl, fun s hs => by simp at hs⟩ rfl (by decide) (by decide) rfl
  · exact good_no (.inl ⟨rfl, fun S => rfl⟩)
  · exact good_no (.inr ⟨_, rfl, .inl (by show 3 ≠ 4; decide)⟩)
  · exact good_no (.inr ⟨_, rfl, .inl (by show 5 ≠ 4; decide)⟩)
  · exact good_no (.inl ⟨rfl, fun S => rfl⟩)
  · exact good_no (.inl ⟨rfl, fun S => rfl⟩)
  · exact good_no (.inr ⟨_, rfl, .inr ⟨_, _, _, _, rfl, fun n S => no_kind (n := n + 8) rfl⟩⟩)
  · exact good_no (.inr ⟨_, rfl, .inr ⟨_, _, _, _, rfl, fun n S => no_tup (n := n + 8) rfl⟩⟩)
  · exact bad1 rfl (fun p e => by cases e)
  · exact bad1 rfl (fun p e => by cases e)
  · exact bad1 rfl (fun p e => by cases e)
  · exact good_bad F rfl (.lst []) a0 (fun e => by cases e)
  · exact good_bad F rfl a0 (.lst []) (fun e => by cases e)
  · exact bad2 (.tup _ rfl (by decide)) a0 (by decide)
  · exact bad2 (.tup _ (by decide +kernel) (by decide)) a0 (by decide +kernel)
  · exact bad2 (.tup _ rfl (by decide)) a0 (by decide)
  · exact bad2 a0 (.tup _ rfl (by decide)) (by decide +kernel)
  · exact bad2 a0 (.tup _ rfl (by decide)) (by decide)
  · exact bad2 a0 (.tup _ rfl (by decide)) (by decide +kernel)
  · exact bad2 a0 (.tup _ rfl (by decide)) (by decide)
  · exact good_ok F hF (p := (Ws d).length) (pile := [X40]) (needs := []) (by decide) ⟨Nat.le_refl _, by rw [dl_end]; rfl, fun s hs => by rw [List.mem_singleton] at hs; subst hs; decide +kernel⟩ (by decide +kernel) rfl (by decide) rfl
theorem wrong_all (d : D) : ∀ v ∈ W1 d, ∀ n S, callF fuel fns (n + 10) 7 [v] S = .ok (.bl false) S := by
  intro v hv n S
  simp only [W1, List.mem_cons, List.not_mem_nil, or_false] at hv
  rcases hv with rfl | rfl | rfl | rfl | rfl | rfl | rfl | rfl
  · exact no_tup (n := n + 8) rfl
  · exact no_empty (n := n + 8)
  · exact no_text1 (n := n + 8)
  · exact no_need (n := n + 6)
  · exact no_join (n := n + 8)
  · exact no_head (n := n + 7)
  · exact no_tup (n := n + 8) rfl
  · exact no_tup (n := n + 8) rfl
theorem rng_mem {lo : Int} {n : Nat} {x : PV} (h : x ∈ rngL lo n) : ∃ k : Nat, k < n ∧ x = .int (lo + (k : Int)) := by
  obtain ⟨k, hk, rfl⟩ := List.mem_map.mp h
  exact ⟨k, List.mem_range.mp hk, rfl⟩
theorem tup_plain {l : List PV} (h : ∀ x ∈ l, x.plain 59 = true) : (PV.tup l).plain 60 = true := by
  show PV.plainAll 59 l = true
  induction l with
  | nil => unfold PV.plainAll; rfl
  | cons x l ih => unfold PV.plainAll; rw [h x (by simp), ih fun y hy => h y (by simp [hy])]; rfl
theorem mulX (S : Store) (k : Nat) (z : Int) (hz : z = (k : Int)) (h1 : 1 ≤ k) (h2 : k ≤ 1000) : evBin S .mul (.str [120]) (.int z) = some (.str (List.replicate k [120]).flatten) := by
  subst hz
  show (if 1 ≤ (k : Int) ∧ (k : Int) ≤ 1000000 ∧ [120].length * (k : Int).toNat ≤ SZ then some (PV.str (List.replicate (k : Int).toNat [120]).flatten) else none) = _
  rw [if_pos ⟨by omega, by omega, by rw [Int.toNat_natCast]; show 1 * k ≤ SZ; unfold SZ; omega⟩, Int.toNat_natCast]
theorem under_Vp (k : Nat) (ws : List Wd) : ∀ ps : List Nat, PV.underAll k (Vp ws ps) = true
  | [] => rfl
  | p :: ps => by
    show (true && PV.underAll k (Vp ws ps)) = true
    rw [under_Vp k ws ps]; rfl
theorem plain_ints2 (n : Nat) (l : List PV) (h : ∀ x ∈ l, ∃ z, x = .int z) : PV.plainAll n l = true := by
  induction l with
  | nil => unfold PV.plainAll; rfl
  | cons x l ih =>
    obtain ⟨z, rfl⟩ := h x (by simp)
    unfold PV.plainAll
    rw [ih fun y hy => h y (by simp [hy])]
    cases n <;> rfl
/-- a turn -/
theorem turn_ok {ds : List Int} (hd : okD ds) (hl : ds.length = 60) {k : Nat} (hF : Flat St) (h : Kd [(2, .int (k : Int)), (1, .lst (ds.map .int))] ρ) : ∃ ρ' St', evSs (o 17) tB ρ St = .next ρ' St' ∧ Flat St' ∧ Kd [(1, .lst (ds.map .int))] ρ' := by
  obtain ⟨d, ok, dp, ct, e1⟩ := law_deed_ok hd hl 3 (Nat.le_refl _) 17 (3 * k + 1) St (by decide)
  have F : Fine d := ⟨ok, dp, ct⟩
  have hWl := (Ws_len d).1
  have ct : d.cnt ≤ 29 := ct
  obtain ⟨ps, X, A, hX, e3⟩ := law_depths_ok 16 d St (by omega)
  have s1 : evS (o 17) (.asg (.nm 4) (.call 15 [.var 1, .bin .add (.bin .mul (.lit (.int 3)) (.var 2)) (.lit (.int 1)), .lst false [.lit (.str [97]), .lit (.str [98]), .lit (.str [115])], .lit (.int 3)])) ρ St = .next (ρ.set 4 (some d.enc)) St :=
    sasg (gcall (gcons (kv h 1 rfl) (gcons (gbin (gbin (glit _) (kv h 0 rfl) (N.mul_nat St 3 k (by decide))) (glit _) (N.add_nat St (3 * k) 1)) (gcons (glst (gcons (glit _) (gcons (glit _) (gcons (glit _) gnil))) (by show 3 ≤ SZ; decide)) (gcons (glit _) gnil)))) e1) (by rw [h.1]; decide)
  have h4 := h.put (i := 4) d.enc rfl (by decide)
  have s2 : evS (o 17) (.asg (.nm 5) (.call 16 [.var 4])) (ρ.set 4 (some d.enc)) St = .next ((ρ.set 4 (some d.enc)).set 5 (some (.tup ((Ws d).map Wd.enc)))) St :=
    sasg (gcall (gcons (kv h4 0 rfl) gnil) (law_words_ok 17 d St (by omega) (by omega) (by omega))) (by rw [h4.1]; decide)
  have h5 := h4.put (i := 5) (.tup ((Ws d).map Wd.enc)) rfl (by decide)
  have s3 : evS (o 17) (.asg (.nm 6) (.call 17 [.var 5])) ((ρ.set 4 (some d.enc)).set 5 (some (.tup ((Ws d).map Wd.enc)))) St = .next (((ρ.set 4 (some d.enc)).set 5 (some (.tup ((Ws d).map Wd.enc)))).set 6 (some (.ref St.length))) (St ++ [dic (Ws d) ps] ++ X) :=
    sasg (gcall (gcons (kv h5 0 rfl) gnil) e3) (by rw [h5.1]; decide)
  have h6 : Kd (A0 (.lst (ds.map .int)) d St.length) (((ρ.set 4 (some d.enc)).set 5 (some (.tup ((Ws d).map Wd.enc)))).set 6 (some (.ref St.length))) := (h5.put (i := 6) (.ref St.length) rfl (by decide)).sub fun q hq => by
    simp only [A0, List.mem_cons, List.not_mem_nil, or_false] at hq ⊢
    rcases hq with rfl | rfl | rfl | rfl <;> simp
  have hFl : Flat (St ++ [dic (Ws d) ps] ++ X) := flat_app (flat_app hF (flat_one fun k => by
    show PV.underAll k (Vp (Ws d) ps) = true
    exact under_Vp k _ ps)) hX
  generalize ((ρ.set 4 (some d.enc)).set 5 (some (.tup ((Ws d).map Wd.enc)))).set 6 (some (.ref St.length)) = ρ6 at s3 h6
  have pe : d.enc.plain 59 = true := d.plain_enc 59 (by omega)
  have k5 : ∀ {B : List (Nat × PV)} {ρ : Env}, Kd (B ++ A0 (.lst (ds.map .int)) d St.length) ρ → Kd (A0 (.lst (ds.map .int)) d St.length) ρ := fun h => h.sub fun q hq => by simp [hq]
  have c1 := gcmp (op := .ne) (gcall (f := 9) (gcons (kv (n := 17) (S := St ++ [dic (Ws d) ps] ++ X) h6 1 rfl) gnil) (words_of_ok 17 d _ ok (by omega) (by omega) (by omega))) (kv (n := 17) h6 2 rfl) (ne_same (by show PV.plainAll 59 _ = true; exact plain_ws 57 _))
  have c2 := gcmp (op := .ne) (gcall (f := 12) (gcons (kv (n := 17) (S := St ++ [dic (Ws d) ps] ++ X) h6 1 rfl) gnil) (begun_ok 17 d _ F (by omega))) (gtup (gcons (kv (n := 17) h6 1 rfl) (gcons (glit (.int 0)) (gcons (gtup gnil (by decide)) (gcons (gtup gnil (by decide)) gnil)))) (by show 4 ≤ SZ; decide)) (ne_same (tup_plain fun x hx => by
    simp only [List.mem_cons, List.not_mem_nil, or_false] at hx
    rcases hx with rfl | rfl | rfl | rfl
    · exact pe
    · rfl
    · rfl
    · rfl))
  have rg : rgLst [.int ((((Ws d).map Wd.enc).length : Int) + 1)] = some (rgL 0 (((Ws d).length + 1 : Nat) : Int)) := by
    rw [List.length_map]
    show (if -BIG ≤ ((Ws d).length : Int) + 1 ∧ ((Ws d).length : Int) + 1 ≤ 16777216 then some (rgL 0 (((Ws d).length : Int) + 1)) else none) = _
    rw [if_pos (by unfold BIG; omega)]; rfl
  have c3 := gcmp (op := .ne) (gbi (b := .sorted) (gcons (kv (n := 17) (S := St ++ [dic (Ws d) ps] ++ X) h6 3 rfl) gnil) (sorted_ok A (by omega))) (glrng (gcons (gbin (op := .add) (gbi (b := .len) (gcons (kv (n := 17) h6 2 rfl) gnil) (b_len_tup _ _)) (glit (.int 1)) rfl) gnil) rg) (ne_same (by
    show PV.plainAll 59 _ = true
    exact plain_ints2 59 _ fun x hx => by obtain ⟨i, _, rfl⟩ := List.mem_map.mp hx; exact ⟨_, rfl⟩))
  have hg := get_in (S0 := St) (X := X) (ws := Ws d) (p := (Ws d).length) ((A.all _).mpr (Nat.le_refl _))
  rw [dl_end] at hg
  have c4 := gcmp (op := .ne) (gdix (kv (n := 17) (S := St ++ [dic (Ws d) ps] ++ X) h6 3 rfl) (gbi (b := .len) (gcons (kv (n := 17) h6 2 rfl) gnil) (by rw [b_len_tup, List.length_map])) hg) (glit (.int 1)) (c_ne_int _ _ _)
  have rg2 : rngOf [.int (-1), .int ((((Ws d).map Wd.enc).length : Int) + 2)] = some (rngL (-1) (((Ws d).length : Int) + 2 - -1).toNat, none) := by
    rw [List.length_map]
    show (if -BIG ≤ (-1 : Int) ∧ (-1 : Int) < BIG ∧ -BIG ≤ ((Ws d).length : Int) + 2 ∧ ((Ws d).length : Int) + 2 < BIG then some (rngL (-1) (((Ws d).length : Int) + 2 - -1).toNat, (none : Option Nat)) else none) = _
    rw [if_pos (by unfold BIG; omega)]
  obtain ⟨ρ7, s5, h7⟩ := for_rngA (o := o 17) (i := 7) (b := pB) (fun ρ => Kd (A0 (.lst (ds.map .int)) d St.length) ρ) (gcons (gneg (glit (.int 1))) (gcons (gbin (op := .add) (gbi (b := .len) (gcons (kv (n := 17) (S := St ++ [dic (Ws d) ps] ++ X) h6 2 rfl) gnil) (b_len_tup _ _)) (glit (.int 2)) rfl) gnil)) rg2 h6 (fun x hx ρ hρ => by
    obtain ⟨j, _, rfl⟩ := rng_mem hx
    exact ⟨by rw [hρ.1]; decide, pB_ok F A (hρ.put (i := 7) _ rfl (by decide))⟩)
  have e8 : evE (o 17) (.tup [.var 4, .lit (.int 0), .tup [], .tup [.lit (.str [97])]]) ρ7 (St ++ [dic (Ws d) ps] ++ X) = .ok (base d) (St ++ [dic (Ws d) ps] ++ X) := gtup (gcons (kv h7 1 rfl) (gcons (glit _) (gcons (gtup gnil (by decide)) (gcons (gtup (gcons (glit _) gnil) (by show 1 ≤ SZ; decide)) gnil)))) (by show 4 ≤ SZ; decide)
  have h8 := h7.put (i := 8) (base d) rfl (by decide)
  have lE : ∀ {ρ : Env} {A : List (Nat × PV)} (k : Nat), Kd A ρ → A[k]? = some (4, d.enc) → evE (o 17) (.bi .list [.var 4]) ρ (St ++ [dic (Ws d) ps] ++ X) = .ok (.lst (.str d.kind :: d.tl)) (St ++ [dic (Ws d) ps] ++ X) := fun k h hk => gbi (gcons (kv h k hk) gnil) (by rw [d.enc_eq]; rfl)
  have nt : ∀ {ρ : Env} {S : Store}, evE (o 17) (.tup []) ρ S = .ok (.tup []) S := gtup (vs := []) gnil (by decide)
  have n1 : ∀ {ρ : Env} {S : Store} {c : C} {v : PV}, evE (o 17) c ρ S = .ok v S → evE (o 17) (.tup [c]) ρ S = .ok (.tup [v]) S := fun h => gtup (gcons h gnil) (by show 1 ≤ SZ; decide)
  have n4 : ∀ {ρ : Env} {S : Store} {a b c e : C} {x y z w : PV}, evE (o 17) a ρ S = .ok x S → evE (o 17) b ρ S = .ok y S → evE (o 17) c ρ S = .ok z S → evE (o 17) e ρ S = .ok w S → evE (o 17) (.tup [a, b, c, e]) ρ S = .ok (.tup [x, y, z, w]) S := fun h1 h2 h3 h4 => gtup (gcons h1 (gcons h2 (gcons h3 (gcons h4 gnil)))) (by show 4 ≤ SZ; decide)
  have v4 : evE (o 17) (.var 4) (ρ7.set 8 (some (base d))) (St ++ [dic (Ws d) ps] ++ X) = .ok d.enc (St ++ [dic (Ws d) ps] ++ X) := kv h8 2 rfl
  have v8 : evE (o 17) (.var 8) (ρ7.set 8 (some (base d))) (St ++ [dic (Ws d) ps] ++ X) = .ok (base d) (St ++ [dic (Ws d) ps] ++ X) := kv h8 0 rfl
  have e9 := glst (o := o 17) (gcons v8 (gcons (gbi (b := .list) (gcons v8 gnil) (z := .lst [d.enc, .int 0, .tup [], .tup [.str [97]]]) rfl) (gcons (gslt v8 (glit (.int 3)) (z := .tup [d.enc, .int 0, .tup []]) rfl) (gcons (gbin (op := .add) v8 (n1 (glit (.int 0))) (z := .tup [d.enc, .int 0, .tup [], .tup [.str [97]], .int 0]) rfl) (gcons (glit .non) (gcons (glit (.int 7))
    (gcons (n4 (gtup (gcons (glit (.str [84, 101, 120, 116])) (gcons (glit (.str [120])) gnil)) (by show 2 ≤ SZ; decide)) (glit (.int 0)) nt nt) (gcons (n4 (lE 2 h8 rfl) (glit (.int 0)) nt nt) (gcons (n4 v4 (glit (.bl true)) nt nt) (gcons (n4 v4 (glit .non) nt nt) (gcons (n4 v4 (glit (.str [48])) nt nt) gnil))))))))))) (by show 11 ≤ SZ; decide)
  have h9 := h8.put (i := 9) (.lst (V1 d)) rfl (by decide)
  have w4 : evE (o 17) (.var 4) ((ρ7.set 8 (some (base d))).set 9 (some (.lst (V1 d)))) (St ++ [dic (Ws d) ps] ++ X) = .ok d.enc (St ++ [dic (Ws d) ps] ++ X) := kv h9 3 rfl
  have e9b := gbin (op := .add) (kv (n := 17) (S := St ++ [dic (Ws d) ps] ++ X) h9 0 rfl) (glst (gcons (n4 w4 (glit (.int 0)) (glst (vs := []) gnil (by decide)) nt) (gcons (n4 w4 (glit (.int 0)) nt (glst (vs := []) gnil (by decide))) (gcons (n4 w4 (glit (.int 0)) (n1 (glit (.str [88]))) nt) (gcons (n4 w4 (glit (.int 0)) (n1 (gbin (op := .mul) (glit (.str [120])) (glit (.int 41)) (mulX _ 41 41 rfl (by decide) (by decide)))) nt) (gcons (n4 w4 (glit (.int 0)) (n1 (glit .non)) nt) (gcons (n4 w4 (glit (.int 0)) nt (gtup (gcons (glit (.str [97])) (gcons (glit (.str [97])) gnil)) (by show 2 ≤ SZ; decide))) gnil)))))) (by show 6 ≤ SZ; decide)) (add_lst _ (V1 d) (V2 d) (by show 11 + 6 ≤ SZ; decide))
  have h9b : Kd ((9, .lst (V1 d ++ V2 d)) :: A0 (.lst (ds.map .int)) d St.length) (((ρ7.set 8 (some (base d))).set 9 (some (.lst (V1 d)))).set 9 (some (.lst (V1 d ++ V2 d)))) := ((h8.set (i := 9) _ rfl).cut).put (i := 9) _ rfl (by decide)
  generalize hρ9 : (((ρ7.set 8 (some (base d))).set 9 (some (.lst (V1 d)))).set 9 (some (.lst (V1 d ++ V2 d)))) = ρ9 at h9b
  have u4 : evE (o 17) (.var 4) ρ9 (St ++ [dic (Ws d) ps] ++ X) = .ok d.enc (St ++ [dic (Ws d) ps] ++ X) := kv h9b 2 rfl
  have e10 := gbin (op := .add) (kv (n := 17) (S := St ++ [dic (Ws d) ps] ++ X) h9b 0 rfl) (glst (gcons (n4 u4 (glit (.int 0)) nt (n1 (glit (.str [])))) (gcons (n4 u4 (glit (.int 0)) nt (n1 (glit (.str [97, 98, 99, 100, 101, 102, 103, 104, 105])))) (gcons (n4 u4 (glit (.int 0)) nt (n1 (glit (.int 3)))) (gcons (n4 u4 (gbi (b := .len) (gcons (kv (n := 17) h9b 3 rfl) gnil) (by rw [b_len_tup, List.length_map])) (n1 (gbin (op := .mul) (glit (.str [120])) (glit (.int 40)) (mulX _ 40 40 rfl (by decide) (by decide)))) nt) gnil)))) (by show 4 ≤ SZ; decide)) (add_lst _ (V1 d ++ V2 d) (V3 d) (by show 17 + 4 ≤ SZ; decide))
  obtain ⟨ρ10, s9, h10⟩ := for_seqA (o := o 17) (i := 10) (b := vB) (fun ρ => Kd (A0 (.lst (ds.map .int)) d St.length) ρ) e10 (wk_lst _) h9b.cut (fun x hx ρ hρ => by
    refine ⟨by rw [hρ.1]; decide, ?_⟩
    obtain ⟨ρ', e, h'⟩ := vB_ok (good_all F hFl x hx) (hρ.put (i := 10) x rfl (by decide)) rfl
    exact ⟨ρ', e, h'.cut⟩)
  have x4 : evE (o 17) (.var 4) ρ10 (St ++ [dic (Ws d) ps] ++ X) = .ok d.enc (St ++ [dic (Ws d) ps] ++ X) := kv h10 1 rfl
  have e11 := glst (o := o 17) (gcons (glit (o := o 17) (ρ := ρ10) (S := St ++ [dic (Ws d) ps] ++ X) .non) (gcons nt (gcons (n1 (glit (.str kText))) (gcons (gtup (gcons (glit (.str kNeed)) (gcons (glit (.str [])) gnil)) (by show 2 ≤ SZ; decide)) (gcons (gtup (gcons (glit (.str kJoin)) (gcons x4 gnil)) (by show 2 ≤ SZ; decide)) (gcons (gtup (gcons (glit (.str kHead)) (gcons (glit (.int 41)) (gcons x4 gnil))) (by show 3 ≤ SZ; decide)) (gcons (lE 1 h10 rfl) (gcons (glit (.int 7)) gnil)))))))) (by show 8 ≤ SZ; decide)
  obtain ⟨ρ11, s10, h11⟩ := for_seqA (o := o 17) (i := 11) (b := wB) (fun ρ => Kd (A0 (.lst (ds.map .int)) d St.length) ρ) e11 (wk_lst _) h10 (fun x hx ρ hρ => by
    refine ⟨by rw [hρ.1]; decide, ?_⟩
    have h11 := hρ.put (i := 11) x rfl (by decide)
    exact ⟨_, wB_ok (wrong_all d x hx) h11, h11.cut⟩)
  refine ⟨ρ11, _, sseq s1 (sseq s2 (sseq s3 (sseq (sif_f (gor_f c1 rfl (gor_f c2 rfl (gor_f c3 rfl (gor1 c4)))) rfl s0) (sseq s5 (sseq (sasg e8 (by rw [h7.1]; decide)) (sseq (sasg e9 (by rw [h8.1]; decide)) (sseq (sasg e9b (by rw [List.length_set, List.length_set, h7.1]; decide)) (sseq (ρ' := ρ10) (S1 := St ++ [dic (Ws d) ps] ++ X) ?_ (sseq s10 s0))))))))), hFl, h11.sub fun q hq => ?_⟩
  · show evS (o 17) _ (((ρ7.set 8 (some (base d))).set 9 (some (.lst (V1 d)))).set 9 (some (.lst (V1 d ++ V2 d)))) _ = _
    rw [hρ9]
    exact s9
  · rw [List.mem_singleton] at hq
    subst hq
    simp [A0]
end
end K12

set_option linter.all false
set_option autoImplicit false
set_option maxRecDepth 100000
set_option maxHeartbeats 4000000
namespace K12
open MK MK.A
def sd : D := .same (.need [97]) (.text [120]) (.text [121]) (.back (.need [98]))
theorem sd_fine : Fine sd := ⟨⟨⟨by decide, by decide, by decide⟩, ⟨by decide, by decide⟩, ⟨by decide, by decide⟩, ⟨by decide, by decide, by decide⟩⟩, by decide, by decide⟩
theorem sd_5 : hf sd (.int 5) (.tup []) (.tup [.str [97]]) = .non := by decide +kernel
theorem sd_4 : hf sd (.int 4) (.tup []) (.tup []) = .tup [.str kPile, .int 1] := by decide +kernel
def WsSd : List PV := [.tup [.str kNeed, .str [97]], .tup [.str kText, .str [120]], .tup [.str kSame, .int 2], .tup [.str kText, .str [121]], .tup [.str kLeap, .int 2], .tup [.str kNeed, .str [98]], .tup [.str kBack]]
theorem sd_w : (Ws sd).map Wd.enc = WsSd := by decide +kernel
theorem turns_ok {ds : List Int} (hd : okD ds) (hl : ds.length = 60) : ∀ (l : List PV) (ρ : Env) (S : Store), (∀ x ∈ l, ∃ k : Nat, x = .int (k : Int)) → Flat S → Kd [(1, .lst (ds.map .int))] ρ → ∃ ρ' S', forL (turn (o 17) (.nm 2) tB) l ρ S = .next ρ' S' ∧ Flat S' ∧ Kd [(1, .lst (ds.map .int))] ρ'
  | [], ρ, S, _, hF, h => ⟨ρ, S, rfl, hF, h⟩
  | x :: l, ρ, S, hx, hF, h => by
    obtain ⟨k, rfl⟩ := hx x List.mem_cons_self
    obtain ⟨ρ1, S1, e1, hF1, h1⟩ := turn_ok hd hl (k := k) hF (h.put (i := 2) (.int (k : Int)) rfl (by decide))
    obtain ⟨ρ2, S2, e2, hF2, h2⟩ := turns_ok hd hl l ρ1 S1 (fun y hy => hx y (List.mem_cons_of_mem _ hy)) hF1 h1
    refine ⟨ρ2, S2, ?_, hF2, h2⟩
    unfold forL
    rw [turn_nm _ _ _ (by rw [h.1]; decide), e1]
    exact e2
theorem main (ns : List Int) (h : ns.length ≤ 63) : ∃ S', callF fuel fns depth 21 [.lst (ns.map fun z => .int z)] [] = .ok (.bl true) S' := by
  obtain ⟨ds, hl, hd, e0⟩ := law_draws_eq 16 ns []
  have s1 : evS (o 17) (.asg (.nm 1) (.call 14 [.var 0, .lit (.int 60)])) (some (.lst (ns.map .int)) :: List.replicate 14 none) [] = .next (some (.lst (ns.map .int)) :: some (.lst (ds.map .int)) :: List.replicate 13 none) [] :=
    sasg (gcall (gcons (gvar rfl) (gcons (glit _) gnil)) e0) (by show 1 < 15; decide)
  have h1 : Kd [(1, .lst (ds.map .int))] (some (.lst (ns.map .int)) :: some (.lst (ds.map .int)) :: List.replicate 13 none) := ⟨rfl, fun k i v hk => by
    cases k with
    | zero => cases hk; rfl
    | succ k => simp at hk⟩
  obtain ⟨ρ2, S2, e2, hF2, h2⟩ := turns_ok hd hl (rngL 0 6) _ [] (fun x hx => by
    obtain ⟨k, _, rfl⟩ := rng_mem hx
    exact ⟨k, by rw [Int.zero_add]⟩) (fun c hc => by simp at hc) h1
  have s2 : evS (o 17) (.for_ (.nm 2) (.rng [.lit (.int 6)]) tB) (some (.lst (ns.map .int)) :: some (.lst (ds.map .int)) :: List.replicate 13 none) [] = .next ρ2 S2 := by
    have := for_rng1 (o := o 17) (e := .lit (.int 6)) (n := 6) (t := .nm 2) (b := tB) (ρ := some (.lst (ns.map .int)) :: some (.lst (ds.map .int)) :: List.replicate 13 none) (S := []) (S1 := []) (glit (.int 6)) (by decide)
    exact this.trans e2
  have n2 : ∀ {ρ : Env} {S : Store} {a b : C} {x y : PV}, evE (o 17) a ρ S = .ok x S → evE (o 17) b ρ S = .ok y S → evE (o 17) (.tup [a, b]) ρ S = .ok (.tup [x, y]) S := fun h1 h2 => gtup (gcons h1 (gcons h2 gnil)) (by show 2 ≤ SZ; decide)
  have eD : evE (o 17) (.tup [.lit (.str kSame), .tup [.lit (.str kNeed), .lit (.str [97])], .tup [.lit (.str kText), .lit (.str [120])], .tup [.lit (.str kText), .lit (.str [121])], .tup [.lit (.str kBack), .tup [.lit (.str kNeed), .lit (.str [98])]]]) ρ2 S2 = .ok sd.enc S2 := gtup (gcons (glit _) (gcons (n2 (glit _) (glit _)) (gcons (n2 (glit _) (glit _)) (gcons (n2 (glit _) (glit _)) (gcons (n2 (glit _) (n2 (glit _) (glit _))) gnil))))) (by show 5 ≤ SZ; decide)
  have h3 := h2.put (i := 3) sd.enc rfl (by decide)
  have eW : evE (o 17) (.tup [.tup [.lit (.str kNeed), .lit (.str [97])], .tup [.lit (.str kText), .lit (.str [120])], .tup [.lit (.str kSame), .lit (.int 2)], .tup [.lit (.str kText), .lit (.str [121])], .tup [.lit (.str kLeap), .lit (.int 2)], .tup [.lit (.str kNeed), .lit (.str [98])], .tup [.lit (.str kBack)]]) (ρ2.set 3 (some sd.enc)) S2 = .ok (.tup WsSd) S2 := gtup (gcons (n2 (glit _) (glit _)) (gcons (n2 (glit _) (glit _)) (gcons (n2 (glit _) (glit _)) (gcons (n2 (glit _) (glit _)) (gcons (n2 (glit _) (glit _)) (gcons (n2 (glit _) (glit _)) (gcons (gtup (gcons (glit _) gnil) (by show 1 ≤ SZ; decide)) gnil))))))) (by show 7 ≤ SZ; decide)
  have c1 := gcmp (op := .ne) (gcall (f := 9) (gcons (kv (n := 17) (S := S2) h3 0 rfl) gnil) (by rw [← sd_w]; exact words_of_ok 17 sd S2 sd_fine.ok (by decide) (by decide) (by decide))) eW (ne_same rfl)
  have a1 : Arg (.tup [.str [97]]) := .tup _ rfl (by decide)
  have a0 : Arg (.tup []) := .tup _ rfl (by decide)
  have g5 := half_ok 8 sd S2 sd_fine (x1 := .int 5) rfl a0 a1
  have g4 := half_ok 8 sd S2 sd_fine (x1 := .int 4) rfl a0 a0
  rw [sd_5] at g5
  rw [sd_4] at g4
  have e5 : evE (o 17) (.tup [.var 3, .lit (.int 5), .tup [], .tup [.lit (.str [97])]]) (ρ2.set 3 (some sd.enc)) S2 = .ok (.tup [sd.enc, .int 5, .tup [], .tup [.str [97]]]) S2 := gtup (gcons (kv h3 0 rfl) (gcons (glit _) (gcons (gtup gnil (by decide)) (gcons (gtup (gcons (glit _) gnil) (by show 1 ≤ SZ; decide)) gnil)))) (by show 4 ≤ SZ; decide)
  have e4 : evE (o 17) (.tup [.var 3, .lit (.int 4), .tup [], .tup []]) (ρ2.set 3 (some sd.enc)) S2 = .ok (.tup [sd.enc, .int 4, .tup [], .tup []]) S2 := gtup (gcons (kv h3 0 rfl) (gcons (glit _) (gcons (gtup gnil (by decide)) (gcons (gtup gnil (by decide)) gnil)))) (by show 4 ≤ SZ; decide)
  have eR : evE (o 17) (.tup [.lit (.str kPile), .lit (.int 1)]) (ρ2.set 3 (some sd.enc)) S2 = .ok (.tup [.str kPile, .int 1]) S2 := gtup (gcons (glit _) (gcons (glit _) gnil)) (by show 2 ≤ SZ; decide)
  refine ⟨[], call_tr (S := []) (X := S2) (F := f_law) rfl rfl rfl rfl (sseq s1 (sseq s2 (sseq (sasg eD (by rw [h2.1]; decide)) (sseq (sif_f c1 rfl s0) (sret (gand_t (gcmp (gcall (gcons e5 gnil) g5) (glit _) rfl) rfl (gand1 (gcmp (gcall (gcons e4 gnil) g4) eR (cmp_eq_same rfl))))))))) rfl⟩
end K12

open PySem PySem.W PyProof.Rows
set_option maxHeartbeats 0 in
theorem PySem.Challenge.cw_maketrue_k12_words_and_halves_holds : PySem.Challenge.rw_maketrue_k12_words_and_halves.Holds := by
  w_on; o_law; k_head; (case hw => w_witness2)
  k_fill
  refine L2.walk_of (l := PySem.Challenge.rw_maketrue_k12_words_and_halves) (n := 63) (k := 2 * K12.depth + 2) (x := "script") (CX := fun w => L2.CX PySem.Challenge.pw_maketrue_k12_words_and_halves w) (sp := fun w => MK.lawSp _ K12.T.exs 1 (MK.callF K12.fuel K12.fns K12.depth 21)) rfl (by decide) rfl ⟨rfl, by decide, by decide⟩ (fun w h Y => PySem.W.kIn_of Y) ?F (fun w H a ns hl _ hS => MK.law_sp2 (K12.main ns hl) hS) (fun w H s e s' h => MK.cx_no h)
  case F =>
    intro w mg fa h KX G hmg
    refine' K12.top K12.fuel K12.depth KX G hmg (MK.dIn_of ?mka0 ?mkl0 ?mkc0 ?mkk0) (MK.dIn_of ?mka1 ?mkl1 ?mkc1 ?mkk1) (MK.dIn_of ?mka2 ?mkl2 ?mkc2 ?mkk2) (MK.dIn_of ?mka3 ?mkl3 ?mkc3 ?mkk3) (MK.dIn_of ?mka4 ?mkl4 ?mkc4 ?mkk4) (MK.dIn_of ?mka5 ?mkl5 ?mkc5 ?mkk5) (MK.dIn_of ?mka6 ?mkl6 ?mkc6 ?mkk6) (MK.dIn_of ?mka7 ?mkl7 ?mkc7 ?mkk7) (MK.dIn_of ?mka8 ?mkl8 ?mkc8 ?mkk8) (MK.dIn_of ?mka9 ?mkl9 ?mkc9 ?mkk9) (MK.dIn_of ?mka10 ?mkl10 ?mkc10 ?mkk10) (MK.dIn_of ?mka11 ?mkl11 ?mkc11 ?mkk11) (MK.dIn_of ?mka12 ?mkl12 ?mkc12 ?mkk12) (MK.dIn_of ?mka13 ?mkl13 ?mkc13 ?mkk13) (MK.dIn_of ?mka14 ?mkl14 ?mkc14 ?mkk14) (MK.dIn_of ?mka15 ?mkl15 ?mkc15 ?mkk15) (MK.dIn_of ?mka16 ?mkl16 ?mkc16 ?mkk16) (MK.dIn_of ?mka17 ?mkl17 ?mkc17 ?mkk17) (MK.dIn_of ?mka18 ?mkl18 ?mkc18 ?mkk18) (MK.dIn_of ?mka19 ?mkl19 ?mkc19 ?mkk19) (MK.dIn_of ?mka20 ?mkl20 ?mkc20 ?mkk20) (MK.dIn_of ?mka21 ?mkl21 ?mkc21 ?mkk21) (MK.mtIn_of (cx := "Doing") ?mkh22 ?mkC22 ?mka22 ?mki22 ?mkl22 ?mkc22 ?mkk22) (MK.mtIn_of (cx := "Doing") ?mkh23 ?mkC23 ?mka23 ?mki23 ?mkl23 ?mkc23 ?mkk23) (MK.mtIn_of (cx := "Doing") ?mkh24 ?mkC24 ?mka24 ?mki24 ?mkl24 ?mkc24 ?mkk24) (MK.mtIn_of (cx := "Doing") ?mkh25 ?mkC25 ?mka25 ?mki25 ?mkl25 ?mkc25 ?mkk25) (MK.mtIn_of (cx := "Doing") ?mkh26 ?mkC26 ?mka26 ?mki26 ?mkl26 ?mkc26 ?mkk26) (MK.mtIn_of (cx := "Doing") ?mkh27 ?mkC27 ?mka27 ?mki27 ?mkl27 ?mkc27 ?mkk27) (MK.mtIn_of (cx := "Doing") ?mkh28 ?mkC28 ?mka28 ?mki28 ?mkl28 ?mkc28 ?mkk28) (MK.mtIn_of (cx := "Doing") ?mkh29 ?mkC29 ?mka29 ?mki29 ?mkl29 ?mkc29 ?mkk29) (MK.mtIn_of (cx := "Doing") ?mkh30 ?mkC30 ?mka30 ?mki30 ?mkl30 ?mkc30 ?mkk30) (MK.eIn_of ?mkea0 ?mkeb0 ?mkec0 ?mked0 ?mkee0) (MK.eIn_of ?mkea1 ?mkeb1 ?mkec1 ?mked1 ?mkee1) (MK.eIn_of ?mkea2 ?mkeb2 ?mkec2 ?mked2 ?mkee2) ?mkxg ?mkxz ?mkxa ?mkxm ?mkxc
    (case mka0 => k_is); (case mkl0 => k_is); (case mkc0 => k_is); (case mkk0 => k_is)
    (case mka1 => k_is); (case mkl1 => k_is); (case mkc1 => k_is); (case mkk1 => k_is)
    (case mka2 => k_is); (case mkl2 => k_is); (case mkc2 => k_is); (case mkk2 => k_is)
    (case mka3 => k_is); (case mkl3 => k_is); (case mkc3 => k_is); (case mkk3 => k_is)
    (case mka4 => k_is); (case mkl4 => k_is); (case mkc4 => k_is); (case mkk4 => k_is)
    (case mka5 => k_is); (case mkl5 => k_is); (case mkc5 => k_is); (case mkk5 => k_is)
    (case mka6 => k_is); (case mkl6 => k_is); (case mkc6 => k_is); (case mkk6 => k_is)
    (case mka7 => k_is); (case mkl7 => k_is); (case mkc7 => k_is); (case mkk7 => k_is)
    (case mka8 => k_is); (case mkl8 => k_is); (case mkc8 => k_is); (case mkk8 => k_is)
    (case mka9 => k_is); (case mkl9 => k_is); (case mkc9 => k_is); (case mkk9 => k_is)
    (case mka10 => k_is); (case mkl10 => k_is); (case mkc10 => k_is); (case mkk10 => k_is)
    (case mka11 => k_is); (case mkl11 => k_is); (case mkc11 => k_is); (case mkk11 => k_is)
    (case mka12 => k_is); (case mkl12 => k_is); (case mkc12 => k_is); (case mkk12 => k_is)
    (case mka13 => k_is); (case mkl13 => k_is); (case mkc13 => k_is); (case mkk13 => k_is)
    (case mka14 => k_is); (case mkl14 => k_is); (case mkc14 => k_is); (case mkk14 => k_is)
    (case mka15 => k_is); (case mkl15 => k_is); (case mkc15 => k_is); (case mkk15 => k_is)
    (case mka16 => k_is); (case mkl16 => k_is); (case mkc16 => k_is); (case mkk16 => k_is)
    (case mka17 => k_is); (case mkl17 => k_is); (case mkc17 => k_is); (case mkk17 => k_is)
    (case mka18 => k_is); (case mkl18 => k_is); (case mkc18 => k_is); (case mkk18 => k_is)
    (case mka19 => k_is); (case mkl19 => k_is); (case mkc19 => k_is); (case mkk19 => k_is)
    (case mka20 => k_is); (case mkl20 => k_is); (case mkc20 => k_is); (case mkk20 => k_is)
    (case mka21 => k_is); (case mkl21 => k_is); (case mkc21 => k_is); (case mkk21 => k_is)
    (case mkh22 => decide +kernel); (case mkC22 => k_is); (case mka22 => k_is); (case mki22 => k_is); (case mkl22 => k_is); (case mkc22 => k_is); (case mkk22 => k_is)
    (case mkh23 => decide +kernel); (case mkC23 => k_is); (case mka23 => k_is); (case mki23 => k_is); (case mkl23 => k_is); (case mkc23 => k_is); (case mkk23 => k_is)
    (case mkh24 => decide +kernel); (case mkC24 => k_is); (case mka24 => k_is); (case mki24 => k_is); (case mkl24 => k_is); (case mkc24 => k_is); (case mkk24 => k_is)
    (case mkh25 => decide +kernel); (case mkC25 => k_is); (case mka25 => k_is); (case mki25 => k_is); (case mkl25 => k_is); (case mkc25 => k_is); (case mkk25 => k_is)
    (case mkh26 => decide +kernel); (case mkC26 => k_is); (case mka26 => k_is); (case mki26 => k_is); (case mkl26 => k_is); (case mkc26 => k_is); (case mkk26 => k_is)
    (case mkh27 => decide +kernel); (case mkC27 => k_is); (case mka27 => k_is); (case mki27 => k_is); (case mkl27 => k_is); (case mkc27 => k_is); (case mkk27 => k_is)
    (case mkh28 => decide +kernel); (case mkC28 => k_is); (case mka28 => k_is); (case mki28 => k_is); (case mkl28 => k_is); (case mkc28 => k_is); (case mkk28 => k_is)
    (case mkh29 => decide +kernel); (case mkC29 => k_is); (case mka29 => k_is); (case mki29 => k_is); (case mkl29 => k_is); (case mkc29 => k_is); (case mkk29 => k_is)
    (case mkh30 => decide +kernel); (case mkC30 => k_is); (case mka30 => k_is); (case mki30 => k_is); (case mkl30 => k_is); (case mkc30 => k_is); (case mkk30 => k_is)
    (case mkea0 => k_is); (case mkeb0 => k_is); (case mkec0 => exact ⟨⟨_, _, rfl, rfl⟩, ⟨_, _, rfl, rfl⟩, ⟨_, _, rfl, rfl⟩, ⟨_, _, rfl, rfl⟩, ⟨_, _, rfl, rfl⟩, ⟨_, _, rfl, rfl⟩, ⟨_, _, rfl, rfl⟩, trivial⟩); (case mked0 => rfl); (case mkee0 => kernel_rfl)
    (case mkea1 => k_is); (case mkeb1 => k_is); (case mkec1 => exact ⟨⟨_, _, rfl, rfl⟩, ⟨_, _, rfl, rfl⟩, ⟨_, _, rfl, rfl⟩, ⟨_, _, rfl, rfl⟩, ⟨_, _, rfl, rfl⟩, ⟨_, _, rfl, rfl⟩, ⟨_, _, rfl, rfl⟩, ⟨_, _, rfl, rfl⟩, ⟨_, _, rfl, rfl⟩, trivial⟩); (case mked1 => rfl); (case mkee1 => kernel_rfl)
    (case mkea2 => k_is); (case mkeb2 => k_is); (case mkec2 => exact ⟨⟨_, _, rfl, rfl⟩, ⟨_, _, rfl, rfl⟩, ⟨_, _, rfl, rfl⟩, ⟨_, _, rfl, rfl⟩, ⟨_, _, rfl, rfl⟩, ⟨_, _, rfl, rfl⟩, ⟨_, _, rfl, rfl⟩, ⟨_, _, rfl, rfl⟩, ⟨_, _, rfl, rfl⟩, ⟨_, _, rfl, rfl⟩, trivial⟩); (case mked2 => rfl); (case mkee2 => kernel_rfl)
    (case mkxg => kernel_rfl); (case mkxz => kernel_rfl); (case mkxa => kernel_rfl); (case mkxm => kernel_rfl); (case mkxc => kernel_rfl)
