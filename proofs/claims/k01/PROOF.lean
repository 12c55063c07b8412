import PyProof.Rows.All
import Wide.All
import OpenK.AllK
import Wide.FinOn
import HandS.ForMost
import HandS.Wide
import HandS.IsInst
import HandS.TupMul
import HandS.TupAny
import HandS.Conv
import HandS.Zip
import HandS.Evl
import HandS.EndBits
import HandS.TryOnly
import PySem.Challenge.RW_cyclebounds_k01_rows_and_products
set_option Elab.async false
set_option linter.all false
set_option maxRecDepth 100000
set_option maxHeartbeats 8000000
/-! The data level: what the walked defs compute, told over plain data, with no heap in sight. -/
namespace DL
open PySem L2

/-- data: a value with all that it holds. scr: a list that is read alone (the script). mu: a local list that is still changed. st: the list `state` that a law hands around. -/
inductive D where
  | non | bl (b : Bool) | int (i : Int) | str (x : Str) | ty (n : String) | glb (n : Str)
  | lst (xs : List D) | tup (xs : List D) | scr (xs : List D)
  | ins (c : Str) (ns : List Str) (ds : List D)
  | mu (xs : List D) | st
instance : Inhabited D := ⟨.non⟩

/-- how a computation ends: bad (nothing is said), a value, an exception of the class named c with the fields fs; with the items of `state` behind it -/
inductive R (α : Type) where
  | bad | ok (a : α) (S : List D) | exc (c : Str) (fs : List (Str × D)) (S : List D)
abbrev M (α : Type) := List D → R α
def ret {α : Type} (a : α) : M α := fun S => .ok a S
def bad {α : Type} : M α := fun _ => .bad
def opt {α : Type} : Option α → M α
  | some a => ret a
  | none => bad
def bnd {α β : Type} (m : M α) (f : α → M β) : M β := fun S => match m S with
  | .bad => .bad
  | .ok a S' => f a S'
  | .exc c fs S' => .exc c fs S'
/-- exceptions are not told -/
def nox {α : Type} (m : M α) : M α := fun S => match m S with
  | .ok a S' => .ok a S'
  | _ => .bad
@[simp] theorem bnd_ret {α β : Type} (a : α) (f : α → M β) : bnd (ret a) f = f a := rfl
@[simp] theorem bnd_bad {α β : Type} (f : α → M β) : bnd bad f = bad := rfl
@[simp] theorem bnd_some {α β : Type} (a : α) (f : α → M β) : bnd (opt (some a)) f = f a := rfl
@[simp] theorem bnd_none {α β : Type} (f : α → M β) : bnd (opt none) f = bad := rfl
@[simp] theorem nox_ret {α : Type} (a : α) : nox (ret a) = ret a := rfl
theorem bnd_ok {α β : Type} {m : M α} {f : α → M β} {S S' : List D} {a : α} (h : m S = .ok a S') : bnd m f S = f a S' := by
  unfold bnd; rw [h]
theorem bnd_exc {α β : Type} {m : M α} {f : α → M β} {S S' : List D} {c : Str} {fs : List (Str × D)} (h : m S = .exc c fs S') : bnd m f S = .exc c fs S' := by
  unfold bnd; rw [h]
theorem nox_ok {α : Type} {m : M α} {S S' : List D} {a : α} (h : m S = .ok a S') : nox m S = .ok a S' := by
  unfold nox; rw [h]
theorem bnd_assoc {α β γ : Type} (m : M α) (f : α → M β) (g : β → M γ) : bnd (bnd m f) g = bnd m fun a => bnd (f a) g := by
  funext S; unfold bnd; cases m S <;> rfl

/-! ### plain data -/
mutual
def toPy : D → Option PyData
  | .non => some .none
  | .bl b => some (.bool b)
  | .int i => some (.int i)
  | .str x => some (.str x)
  | .lst xs => (toPys xs).map .list
  | .tup xs => (toPys xs).map .tuple
  | _ => none
def toPys : List D → Option (List PyData)
  | [] => some []
  | x :: xs => match toPy x, toPys xs with
    | some d, some ds => some (d :: ds)
    | _, _ => none
end
/-- a value that may be kept: no list that is still changed -/
def dat : D → Bool
  | .mu _ => false
  | .st => false
  | _ => true

/-! ### operators -/
def big : Nat := 100000
def dAdd : D → D → Option D
  | .int a, .int b => some (.int (a + b))
  | .str a, .str b => if a.length + b.length ≤ big then some (.str (a ++ b)) else none
  | .tup a, .tup b => if a.length + b.length ≤ big then some (.tup (a ++ b)) else none
  | .lst a, .lst b => if a.length + b.length ≤ big then some (.lst (a ++ b)) else none
  | _, _ => none
def dSub : D → D → Option D
  | .int a, .int b => some (.int (a - b))
  | _, _ => none
def mulOk (a b : Int) : Bool := decide (a.natAbs.log2 + b.natAbs.log2 < 1000000) || (decide (-(2 ^ 64) < b) && decide (b < 2 ^ 64))
def dMul : D → D → Option D
  | .int a, .int b => if mulOk a b then some (.int (a * b)) else none
  | .lst xs, .int k => if k ≤ 100000 ∧ -100000 ≤ k ∧ xs.length * k.toNat ≤ 100000 then some (.lst (List.replicate k.toNat xs).flatten) else none
  | _, _ => none
def dFdiv : D → D → Option D
  | .int a, .int b => if 0 < b ∧ b.natAbs.log2 < 9000 then some (.int (a / b)) else none
  | _, _ => none
def dMod : D → D → Option D
  | .int a, .int b => if 0 < b then some (.int (a % b)) else none
  | _, _ => none
def dPow : D → D → Option D
  | .int a, .int b => if 0 ≤ b ∧ b ≤ 1000000 ∧ a.natAbs < 2 ^ 64 then some (.int (a ^ b.toNat)) else none
  | _, _ => none
def dNeg : D → Option D
  | .int a => some (.int (-a))
  | _ => none
def dLt : D → D → Option D
  | .int a, .int b => some (.bl (decide (a < b)))
  | _, _ => none
def dLe : D → D → Option D
  | .int a, .int b => some (.bl (decide (a ≤ b)))
  | _, _ => none
def dGt : D → D → Option D
  | .int a, .int b => some (.bl (decide (b < a)))
  | _, _ => none
def dGe : D → D → Option D
  | .int a, .int b => some (.bl (decide (b ≤ a)))
  | _, _ => none
def dEqB (a b : D) : Option Bool := match toPy a, toPy b with
  | some p, some q => if SeqAt.shaped p && SeqAt.shaped q then some (PyData.eqv p q) else none
  | _, _ => none
def dEq (a b : D) : Option D := match a, b with
  | .int i, .int j => some (.bl (decide (i = j)))
  | a, b => (dEqB a b).map .bl
def dNe (a b : D) : Option D := match a, b with
  | .int i, .int j => some (.bl (!decide (i = j)))
  | a, b => (dEqB a b).map fun x => .bl (!x)
/-- the items of what is walked or asked for its length -/
def items : D → Option (List D)
  | .lst xs => some xs
  | .tup xs => some xs
  | .scr xs => some xs
  | .mu xs => some xs
  | _ => none
def dLen : D → Option D
  | .str x => if x.length ≤ big then some (.int x.length) else none
  | d => (items d).map fun xs => .int xs.length
def dAbs : D → Option D
  | .int i => some (.int (if i < 0 then -i else i))
  | _ => none
def dInt : D → Option D
  | .int i => some (.int i)
  | .bl b => some (.int (if b then 1 else 0))
  | _ => none
def dTuple : D → Option D
  | .tup xs => some (.tup xs)
  | d => (items d).map .tup
def dList : D → Option (List D)
  | d => items d
def intOf : D → Option Int
  | .int i => some i
  | _ => none
def intsOf : List D → Option (List Int)
  | [] => some []
  | x :: xs => match intOf x, intsOf xs with
    | some i, some is => some (i :: is)
    | _, _ => none
def boolOf : D → Option Bool
  | .bl b => some b
  | _ => none
def boolsOf : List D → Option (List Bool)
  | [] => some []
  | x :: xs => match boolOf x, boolsOf xs with
    | some i, some is => some (i :: is)
    | _, _ => none
def dSum : D → Option D
  | .lst xs => (intsOf xs).map fun is => .int is.sum
  | _ => none
def dAll : D → Option D
  | .lst xs => (boolsOf xs).map fun bs => .bl (bs.all id)
  | _ => none
def dAny : D → Option D
  | .lst xs => (boolsOf xs).map fun bs => .bl (bs.any id)
  | _ => none
/-- a truth value -/
def dTru : D → Option Bool
  | .non => some false
  | .bl b => some b
  | .int i => some (i != 0)
  | .str x => if x.length ≤ big then some ((x.length : Int) != 0) else none
  | .lst xs => some (!xs.isEmpty)
  | .tup xs => some (!xs.isEmpty)
  | _ => none
def tyName : D → Option String
  | .non => some "NoneType"
  | .bl _ => some "bool"
  | .int _ => some "int"
  | .str _ => some "str"
  | .lst _ => some "list"
  | .mu _ => some "list"
  | .tup _ => some "tuple"
  | _ => none
def kinds : List String := ["int", "bool", "str", "list", "tuple"]
def isT (a b : String) : Bool := a == b || (a == "bool" && b == "int")
def dIsi (d : D) : D → Option D
  | .ty n => if kinds.contains n then (tyName d).map fun t => .bl (isT t n) else none
  | _ => none
/-- isinstance of a tuple of types -/
def dIsis (ns : List String) (d : D) : Option D := if ns.all kinds.contains && decide (ns.length ≤ 10) then (tyName d).map fun t => .bl (ns.any (isT t)) else none
/-- x[i] -/
def dIx (S : List D) (a i : D) : Option D := match i with
  | .int i => match a with
    | .st => atI S i
    | .str z => if z.length ≤ big then (atI z.cps.toList i).map fun c => .str ⟨#[c]⟩ else none
    | a => (items a).bind fun xs => atI xs i
  | _ => none
def cutD (xs : List D) (lo hi : Option Int) : List D := (xs.drop (HT.sIx xs.length 0 lo)).take (HT.sIx xs.length xs.length hi - HT.sIx xs.length 0 lo)
def dCut (lo hi : Option Int) : D → Option D
  | .tup xs => some (.tup (cutD xs lo hi))
  | .lst xs => some (.lst (cutD xs lo hi))
  | .scr xs => some (.lst (cutD xs lo hi))
  | _ => none

/-! ### expressions: over the def's names by slots -/
abbrev DE := List (Option D)
def eV (i : Nat) : DE → M D := fun ρ => opt (ρ[i]?).join
def eC (d : D) : DE → M D := fun _ => ret d
def e1 (f : D → Option D) (a : DE → M D) : DE → M D := fun ρ => bnd (a ρ) fun x => opt (f x)
def e2 (f : D → D → Option D) (a b : DE → M D) : DE → M D := fun ρ => bnd (a ρ) fun x => bnd (b ρ) fun y => opt (f x y)
def eIx (a b : DE → M D) : DE → M D := fun ρ => bnd (a ρ) fun x => bnd (b ρ) fun y S => opt (dIx S x y) S
/-- argument lists -/
def aN : DE → M (List D) := fun _ => ret []
def aC (a : DE → M D) (r : DE → M (List D)) : DE → M (List D) := fun ρ => bnd (a ρ) fun x => bnd (r ρ) fun xs => ret (x :: xs)
/-- a builtin of its arguments -/
def eB (f : List D → Option D) (a : DE → M (List D)) : DE → M D := fun ρ => bnd (a ρ) fun xs => opt (f xs)
def f1 (f : D → Option D) : List D → Option D
  | [x] => f x
  | _ => none
def f2 (f : D → D → Option D) : List D → Option D
  | [x, y] => f x y
  | _ => none
/-- a def of its arguments -/
def eF (f : List D → M D) (a : DE → M (List D)) : DE → M D := fun ρ => bnd (a ρ) f
def allDat (xs : List D) : Bool := xs.all dat
def eTup (a : DE → M (List D)) : DE → M D := fun ρ => bnd (a ρ) fun xs => if allDat xs && decide (xs.length ≤ big) then ret (.tup xs) else bad
/-- lists that are new: their items -/
def lLst (a : DE → M (List D)) : DE → M (List D) := fun ρ => bnd (a ρ) fun xs => if allDat xs && decide (xs.length ≤ big) then ret xs else bad
def lOf (f : D → Option (List D)) (a : DE → M D) : DE → M (List D) := fun ρ => bnd (a ρ) fun x => opt (f x)
def lRep (a b : DE → M D) : DE → M (List D) := fun ρ => bnd (a ρ) fun x => bnd (b ρ) fun y => match x, y with
  | .lst xs, .int k => if k ≤ 100000 ∧ -100000 ≤ k ∧ xs.length * k.toNat ≤ 100000 then ret (List.replicate k.toNat xs).flatten else bad
  | _, _ => bad
def lCat (a b : DE → M D) : DE → M (List D) := fun ρ => bnd (a ρ) fun x => bnd (b ρ) fun y => match x, y with
  | .lst xs, .lst ys => if xs.length + ys.length ≤ big then ret (xs ++ ys) else bad
  | _, _ => bad
def lCut (lo hi : DE → M (Option Int)) (a : DE → M D) : DE → M (List D) := fun ρ => bnd (a ρ) fun x => bnd (lo ρ) fun l => bnd (hi ρ) fun h => match x with
  | .lst xs => ret (cutD xs l h)
  | .scr xs => ret (cutD xs l h)
  | .mu xs => ret (cutD xs l h)
  | _ => bad
/-- isinstance(x, (T, ..)) -/
def eIsi (ns : List String) (a : DE → M D) : DE → M D := fun ρ => bnd (a ρ) fun x => opt (dIsis ns x)
def oN : DE → M (Option Int) := fun _ => ret none
def oS (a : DE → M D) : DE → M (Option Int) := fun ρ => bnd (a ρ) fun x => match x with
  | .int i => ret (some i)
  | _ => bad
def eCut (lo hi : DE → M (Option Int)) (a : DE → M D) : DE → M D := fun ρ => bnd (a ρ) fun x => bnd (lo ρ) fun l => bnd (hi ρ) fun h => opt (dCut l h x)
/-- a new list as a value -/
def eL (l : DE → M (List D)) : DE → M D := fun ρ => bnd (l ρ) fun xs => ret (.lst xs)

def noMu (ds : List D) : Bool := ds.all fun d => match d with
  | .mu _ => false
  | _ => true
def eFn (f : List D → M D) (a : DE → M (List D)) : DE → M D := fun ρ => bnd (a ρ) fun ds => if noMu ds then nox (f ds) else bad
def lFn (f : List D → M (List D)) (a : DE → M (List D)) : DE → M (List D) := fun ρ => bnd (a ρ) fun ds => if noMu ds then nox (f ds) else bad
/-! ### tests -/
def tV (a : DE → M D) : DE → M Bool := fun ρ => bnd (a ρ) fun x => opt (boolOf x)
def tT (a : DE → M D) : DE → M Bool := fun ρ => bnd (a ρ) fun x => opt (dTru x)
def tAn (a b : DE → M Bool) : DE → M Bool := fun ρ => bnd (a ρ) fun x => if x then b ρ else ret false
def tOr' (a b : DE → M Bool) : DE → M Bool := fun ρ => bnd (a ρ) fun x => if x then ret true else b ρ
def tNo (a : DE → M Bool) : DE → M Bool := fun ρ => bnd (a ρ) fun x => ret (!x)
def tY : DE → M Bool := fun _ => ret true
/-- and, or, not as values (of truth values) -/
def eAn (a b : DE → M D) : DE → M D := fun ρ => bnd (a ρ) fun x => match x with
  | .bl true => b ρ
  | .bl false => ret (.bl false)
  | _ => bad
def eOr (a b : DE → M D) : DE → M D := fun ρ => bnd (a ρ) fun x => match x with
  | .bl true => ret (.bl true)
  | .bl false => b ρ
  | _ => bad
def eNo (a : DE → M D) : DE → M D := fun ρ => bnd (a ρ) fun x => match x with
  | .bl b => ret (.bl (!b))
  | _ => bad
def eIf (t : DE → M Bool) (a b : DE → M D) : DE → M D := fun ρ => bnd (t ρ) fun x => if x then a ρ else b ρ

/-! ### what is walked -/
def rngD (lo hi : Int) : List D := (List.range (hi - lo).toNat).map fun i => .int (lo + (i : Nat))
def smallI (i : Int) : Bool := decide (-100000 ≤ i) && decide (i ≤ 100000)
def iR1 (a : DE → M D) : DE → M (List D) := fun ρ => bnd (a ρ) fun x => match x with
  | .int n => if smallI n then ret (rngD 0 n) else bad
  | _ => bad
def iR2 (a b : DE → M D) : DE → M (List D) := fun ρ => bnd (a ρ) fun x => bnd (b ρ) fun y => match x, y with
  | .int m, .int n => if smallI m && smallI n then ret (rngD m n) else bad
  | _, _ => bad
def iSq (a : DE → M D) : DE → M (List D) := fun ρ => bnd (a ρ) fun x => match x with
  | .lst xs => ret xs
  | .scr xs => ret xs
  | .tup xs => ret xs
  | _ => bad
/-- targets -/
def gN (i : Nat) : D → DE → Option DE := fun d ρ => if dat d then some (ρ.set i (some d)) else none
def setAll : List Nat → List D → DE → Option DE
  | [], [], ρ => some ρ
  | i :: is, d :: ds, ρ => if dat d then setAll is ds (ρ.set i (some d)) else none
  | _, _, _ => none
def gT (is : List Nat) : D → DE → Option DE := fun d ρ => match d with
  | .tup ds => setAll is ds ρ
  | .lst ds => setAll is ds ρ
  | _ => none
def wipeD (ρ : DE) : List Nat → DE
  | [] => ρ
  | v :: vs => (wipeD ρ vs).set v none

/-- a list comprehension -/
def lcD (g : D → DE → Option DE) (t : DE → M Bool) (e : DE → M D) (ρ : DE) : List D → M (List D)
  | [] => ret []
  | x :: xs => bnd (opt (g x ρ)) fun ρ1 => bnd (nox (t ρ1)) fun b =>
      if b then bnd (nox (e ρ1)) fun y => if dat y then bnd (lcD g t e ρ xs) fun ys => ret (y :: ys) else bad
      else lcD g t e ρ xs
def lLc (it : DE → M (List D)) (g : D → DE → Option DE) (t : DE → M Bool) (e : DE → M D) (vs : List Nat) : DE → M (List D) := fun ρ =>
  bnd (it ρ) fun xs => if xs.length ≤ 100000 then lcD g t e (wipeD ρ vs) xs else bad

/-! ### statements -/
inductive Fl where
  | nx (ρ : DE) | rt (d : D) | rl (xs : List D) | bk (ρ : DE) | ct (ρ : DE)
abbrev DS := DE → M Fl
def sSkip : DS := fun ρ => ret (.nx ρ)
def sSeq (a b : DS) : DS := fun ρ => bnd (a ρ) fun f => match f with
  | .nx ρ' => b ρ'
  | f => ret f
def sA (i : Nat) (e : DE → M D) : DS := fun ρ => bnd (e ρ) fun d => if dat d then ret (.nx (ρ.set i (some d))) else bad
/-- a name gets a new list that will be changed -/
def sM (i : Nat) (l : DE → M (List D)) : DS := fun ρ => bnd (l ρ) fun xs => ret (.nx (ρ.set i (some (.mu xs))))
/-- targets that are a tuple of names, off a value -/
def sT (is : List Nat) (e : DE → M D) : DS := fun ρ => bnd (e ρ) fun d => bnd (opt (gT is d ρ)) fun ρ' => ret (.nx ρ')
/-- a, b = x, y -/
def sP (i j : Nat) (a : DE → M (List D)) : DS := fun ρ => bnd (a ρ) fun vs => match vs with
  | [v, w] => if dat v && dat w then ret (.nx ((ρ.set i (some v)).set j (some w))) else bad
  | _ => bad
def sE (e : DE → M D) : DS := fun ρ => bnd (e ρ) fun _ => ret (.nx ρ)
def sR (e : DE → M D) : DS := fun ρ => bnd (e ρ) fun d => if dat d then ret (.rt d) else bad
/-- a new list is handed back, to be changed further -/
def sRL (l : DE → M (List D)) : DS := fun ρ => bnd (l ρ) fun xs => ret (.rl xs)
def sIf (t : DE → M Bool) (a b : DS) : DS := fun ρ => bnd (t ρ) fun x => if x then a ρ else b ρ
/-- x.append(e) -/
def sAp (i : Nat) (e : DE → M D) : DS := fun ρ => match (ρ[i]?).join with
  | some (.mu xs) => bnd (e ρ) fun d => if dat d && decide (xs.length < 100000) then ret (.nx (ρ.set i (some (.mu (xs ++ [d]))))) else bad
  | _ => bad
/-- x[k] = e -/
def sSt (i : Nat) (k e : DE → M D) : DS := fun ρ => bnd (e ρ) fun d => match (ρ[i]?).join with
  | some (.mu xs) => bnd (k ρ) fun y => match y with
    | .int z => if dat d then bnd (opt (ixN xs.length z)) fun j => ret (.nx (ρ.set i (some (.mu (xs.set j d))))) else bad
    | _ => bad
  | some .st => bnd (k ρ) fun y => match y with
    | .int z => if dat d then fun S => match ixN S.length z with
        | some j => .ok (.nx ρ) (S.set j d)
        | none => .bad
      else bad
    | _ => bad
  | _ => bad
/-- a changed list is changed no more -/
def frz (i : Nat) (ρ : DE) : DE := match (ρ[i]?).join with
  | some (.mu xs) => ρ.set i (some (.lst xs))
  | _ => ρ
def sFz (i : Nat) (s : DS) : DS := fun ρ => s (frz i ρ)
/-- state = f(..): the law's own list -/
def sNew (i : Nat) (l : DE → M (List D)) : DS := fun ρ => bnd (l ρ) fun xs S => match S with
  | [.st] => .ok (.nx (ρ.set i (some .st))) xs
  | _ => .bad
def forD (g : D → DE → Option DE) (b : DS) : List D → DS
  | [], ρ => ret (.nx ρ)
  | x :: xs, ρ => bnd (opt (g x ρ)) fun ρ1 => bnd (b ρ1) fun f => match f with
    | .nx ρ2 => forD g b xs ρ2
    | .ct ρ2 => forD g b xs ρ2
    | .bk ρ2 => ret (.nx ρ2)
    | f => ret f
def sFor (it : DE → M (List D)) (g : D → DE → Option DE) (b : DS) : DS := fun ρ => bnd (it ρ) fun xs => if xs.length ≤ 100000 then forD g b xs ρ else bad
/-- while, n turns at most -/
def whN (t : DE → M Bool) (b : DS) : Nat → DS
  | 0, _ => bad
  | n + 1, ρ => bnd (t ρ) fun x => if x then bnd (b ρ) fun f => match f with
      | .nx ρ2 => whN t b n ρ2
      | .ct ρ2 => whN t b n ρ2
      | .bk ρ2 => ret (.nx ρ2)
      | f => ret f
    else ret (.nx ρ)
open Classical in
noncomputable def sWh (t : DE → M Bool) (b : DS) : DS := fun ρ S => if h : ∃ n, whN t b n ρ S ≠ .bad then whN t b (choose h) ρ S else .bad

/-! ### defs -/
def ends : Fl → M D
  | .rt d => ret d
  | .nx _ => ret .non
  | _ => bad
def endsL : Fl → M (List D)
  | .rl xs => ret xs
  | _ => bad
def startD (n : Nat) (ds : List D) : DE := ds.map some ++ List.replicate (n - ds.length) none
/-- a def that makes a list `state` of its own leaves none behind -/
def back (S S' : List D) : List D := match S with
  | [.st] => [.st]
  | _ => S'
def own {α : Type} (m : M α) : M α := fun S => match m S with
  | .bad => .bad
  | .ok a S' => .ok a (back S S')
  | .exc c fs S' => .exc c fs (back S S')
theorem back_self (S : List D) : back S S = S := by
  unfold back; split <;> rfl
/-- a def's body, of n names, run on its np arguments -/
def run (n np : Nat) (b : DS) (ds : List D) : M D := if ds.length = np then own (bnd (b (startD n ds)) ends) else bad
def runL (n np : Nat) (b : DS) (ds : List D) : M (List D) := if ds.length = np then own (bnd (b (startD n ds)) endsL) else bad
/-- .. of a def that raises nothing -/
def runP (n np : Nat) (b : DS) (ds : List D) : M D := nox (run n np b ds)
def runLP (n np : Nat) (b : DS) (ds : List D) : M (List D) := nox (runL n np b ds)
end DL

/-! The rules of the data level: a def's body, read over plain data, does what it says. -/
namespace DL
open PySem PySem.Spec PyProof.Rows L2 Evl

section
variable (K : PySem.W.Frag) (mg : Str → Option Value)
mutual
inductive Rp (F : Hp) : V → D → Prop
  | non : Rp F .non .non
  | bl (b : Bool) : Rp F (.bl b) (.bl b)
  | int (i : Int) : Rp F (.int i) (.int i)
  | str (x : Str) : Rp F (.str x) (.str x)
  | ty (n : String) : Rp F (.ty n) (.ty n)
  | glb {n : Str} {a : Addr} : mg n = some (.ref a) → Rp F (.ref a) (.glb n)
  | lst {a : Addr} {vs : List V} {ds : List D} : F a = some (.lst vs) → Rps F vs ds → Rp F (.ref a) (.lst ds)
  | tup {a : Addr} {vs : List V} {ds : List D} : SqT K F a vs → Rps F vs ds → Rp F (.ref a) (.tup ds)
  | scr {a : Addr} {vs : List V} {ds : List D} : SqL K F a vs → Rps F vs ds → Rp F (.ref a) (.scr ds)
  | ins {a C dx : Addr} {n : Str} {ns : List Str} {vs : List V} {ds : List D} : mg n = some (.ref C) → F a = some (.ins C dx (ns.zip vs)) → ns.length = vs.length → Rps F vs ds → Rp F (.ref a) (.ins n ns ds)
inductive Rps (F : Hp) : List V → List D → Prop
  | nil : Rps F [] []
  | cons {v : V} {vs : List V} {d : D} {ds : List D} : Rp F v d → Rps F vs ds → Rps F (v :: vs) (d :: ds)
end
end

section
variable {K : PySem.W.Frag} {mg : Str → Option Value} {F F' H H' : Hp}
mutual
theorem Rp.mono (e : Ex F F') : ∀ {v : V} {d : D}, Rp K mg F v d → Rp K mg F' v d
  | _, _, .non => .non
  | _, _, .bl b => .bl b
  | _, _, .int i => .int i
  | _, _, .str x => .str x
  | _, _, .ty n => .ty n
  | _, _, .glb h => .glb h
  | _, _, .lst h r => .lst (e _ _ h) (Rps.mono e r)
  | _, _, .tup h r => .tup (ex_t e h) (Rps.mono e r)
  | _, _, .scr h r => .scr (ex_l e h) (Rps.mono e r)
  | _, _, .ins h1 h2 h3 r => .ins h1 (e _ _ h2) h3 (Rps.mono e r)
theorem Rps.mono (e : Ex F F') : ∀ {vs : List V} {ds : List D}, Rps K mg F vs ds → Rps K mg F' vs ds
  | _, _, .nil => .nil
  | _, _, .cons a r => .cons (Rp.mono e a) (Rps.mono e r)
end
theorem Rps.length : ∀ {vs : List V} {ds : List D}, Rps K mg F vs ds → vs.length = ds.length
  | _, _, .nil => rfl
  | _, _, .cons _ r => by rw [List.length_cons, List.length_cons, Rps.length r]
theorem Rps.append : ∀ {vs ws : List V} {ds es : List D}, Rps K mg F vs ds → Rps K mg F ws es → Rps K mg F (vs ++ ws) (ds ++ es)
  | _, _, _, _, .nil, s => s
  | _, _, _, _, .cons a r, s => .cons a (Rps.append r s)
theorem Rps.get : ∀ {vs : List V} {ds : List D} {i : Nat} {d : D}, Rps K mg F vs ds → ds[i]? = some d → ∃ v, vs[i]? = some v ∧ Rp K mg F v d
  | _, _, i, _, .nil, h => by simp at h
  | _, _, 0, _, .cons a r, h => by simp at h; subst h; exact ⟨_, rfl, a⟩
  | _, _, i + 1, _, .cons a r, h => by
    obtain ⟨v, h1, h2⟩ := Rps.get (i := i) r (by simpa using h)
    exact ⟨v, by simpa using h1, h2⟩
theorem Rps.getV : ∀ {vs : List V} {ds : List D} {i : Nat} {v : V}, Rps K mg F vs ds → vs[i]? = some v → ∃ d, ds[i]? = some d ∧ Rp K mg F v d
  | _, _, i, _, .nil, h => by simp at h
  | _, _, 0, _, .cons a r, h => by simp at h; subst h; exact ⟨_, rfl, a⟩
  | _, _, i + 1, _, .cons a r, h => by
    obtain ⟨v, h1, h2⟩ := Rps.getV (i := i) r (by simpa using h)
    exact ⟨v, by simpa using h1, h2⟩
theorem Rps.set {v : V} {d : D} (h : Rp K mg F v d) : ∀ {vs : List V} {ds : List D} (i : Nat), Rps K mg F vs ds → Rps K mg F (vs.set i v) (ds.set i d)
  | _, _, _, .nil => .nil
  | _, _, 0, .cons _ r => .cons h r
  | _, _, i + 1, .cons a r => .cons a (Rps.set h i r)
theorem Rps.drop : ∀ {vs : List V} {ds : List D} (n : Nat), Rps K mg F vs ds → Rps K mg F (vs.drop n) (ds.drop n)
  | _, _, 0, r => r
  | _, _, _ + 1, .nil => .nil
  | _, _, n + 1, .cons _ r => Rps.drop n r
theorem Rps.take : ∀ {vs : List V} {ds : List D} (n : Nat), Rps K mg F vs ds → Rps K mg F (vs.take n) (ds.take n)
  | _, _, 0, _ => .nil
  | _, _, _ + 1, .nil => .nil
  | _, _, n + 1, .cons a r => .cons a (Rps.take n r)
theorem Rps.cut {vs : List V} {ds : List D} (lo hi : Option Int) (r : Rps K mg F vs ds) : Rps K mg F (cutV vs lo hi) (cutD ds lo hi) := by
  unfold cutV cutD
  rw [r.length]
  exact (r.drop _).take _
theorem Rps.flat {vs : List V} {ds : List D} (r : Rps K mg F vs ds) : ∀ n : Nat, Rps K mg F (List.replicate n vs).flatten (List.replicate n ds).flatten
  | 0 => .nil
  | n + 1 => by
    rw [List.replicate_succ, List.replicate_succ, List.flatten_cons, List.flatten_cons]
    exact r.append (Rps.flat r n)
theorem Rps.ints : ∀ {vs : List V} {ds : List D} {ns : List Int}, Rps K mg F vs ds → intsOf ds = some ns → vs = ns.map V.int
  | _, _, ns, .nil, h => by cases h; rfl
  | _, _, ns, .cons (d := d) (ds := ds) a r, h => by
    unfold intsOf at h
    split at h
    · rename_i i is h1 h2
      cases h
      rw [Rps.ints r h2]
      cases d <;> first | (cases h1; done) | skip
      cases h1
      cases a
      rfl
    · cases h
theorem Rps.bools : ∀ {vs : List V} {ds : List D} {ns : List Bool}, Rps K mg F vs ds → boolsOf ds = some ns → vs = ns.map V.bl
  | _, _, ns, .nil, h => by cases h; rfl
  | _, _, ns, .cons (d := d) (ds := ds) a r, h => by
    unfold boolsOf at h
    split at h
    · rename_i i is h1 h2
      cases h
      rw [Rps.bools r h2]
      cases d <;> first | (cases h1; done) | skip
      cases h1
      cases a
      rfl
    · cases h
mutual
theorem Rp.dp (e : Ex F H) : ∀ (d : D) {v : V} {p : PyData}, Rp K mg F v d → toPy d = some p → Dp K H v p
  | .non, _, _, r, h => by cases r; cases h; exact .non
  | .bl b, _, _, r, h => by cases r; cases h; exact .bl b
  | .int i, _, _, r, h => by cases r; cases h; exact .int i
  | .str x, _, _, r, h => by cases r; cases h; exact .str x
  | .lst xs, _, _, r, h => by
    unfold toPy at h
    cases h1 : toPys xs with
    | none => rw [h1] at h; cases h
    | some ps =>
      rw [h1] at h; cases h
      cases r with
      | lst q r => exact .lst (sq_of (e _ _ q)) (Rps.dp e xs r h1)
  | .tup xs, _, _, r, h => by
    unfold toPy at h
    cases h1 : toPys xs with
    | none => rw [h1] at h; cases h
    | some ps =>
      rw [h1] at h; cases h
      cases r with
      | tup q r => exact .tup (ex_t e q) (Rps.dp e xs r h1)
  | .ty _, _, _, _, h => by unfold toPy at h; cases h
  | .glb _, _, _, _, h => by unfold toPy at h; cases h
  | .scr _, _, _, _, h => by unfold toPy at h; cases h
  | .ins _ _ _, _, _, _, h => by unfold toPy at h; cases h
  | .mu _, _, _, _, h => by unfold toPy at h; cases h
  | .st, _, _, _, h => by unfold toPy at h; cases h
theorem Rps.dp (e : Ex F H) : ∀ (ds : List D) {vs : List V} {ps : List PyData}, Rps K mg F vs ds → toPys ds = some ps → DpAll K H vs ps
  | [], _, _, r, h => by cases r; cases h; exact .nil
  | d :: ds, _, _, r, h => by
    unfold toPys at h
    split at h
    · rename_i p ps h1 h2
      cases h
      cases r with
      | cons a r => exact .cons (Rp.dp e d a h1) (Rps.dp e ds r h2)
    · cases h
end
end

/-! ### where one stands -/
structure Grow (ps : Option Addr) (F H F' H' : Hp) : Prop where
  ff : Ex F F'
  fh : Ex F' H'
  fr : ∀ a, H a ≠ none → F' a = F a
  hh : ∀ a o, H a = some o → some a ≠ ps → H' a = some o
section
variable {ps : Option Addr} {F H F1 H1 F2 H2 : Hp}
theorem Grow.refl (e : Ex F H) : Grow ps F H F H := ⟨Ex.refl F, e, fun _ _ => rfl, fun _ _ h _ => h⟩
theorem Grow.new {p : Addr} {o : HO} (e : Ex F H) (h : H p = none) : Grow ps F H (upd F p o) (upd H p o) := by
  refine ⟨Ex.new (fresh_back e h), fun a u q => ?_, fun a q => ?_, fun a u q _ => ?_⟩
  · by_cases z : a = p
    · subst z; rw [upd_same] at q ⊢; exact q
    · rw [upd_ne z] at q ⊢; exact e a u q
  · have z : a ≠ p := fun z => q (by rw [z]; exact h)
    rw [upd_ne z]
  · have z : a ≠ p := fun z => by rw [z, h] at q; cases q
    rw [upd_ne z]; exact q
end

section
variable (K : PySem.W.Frag) (mg : Str → Option Value)
/-- the items of `state` -/
def StR (ps : Option Addr) (F H : Hp) (S : List D) : Prop := (∀ p, ps = some p → F p = none ∧ ∃ vs, H p = some (.lst vs) ∧ Rps K mg F vs S) ∧ (ps = none → S = [D.st])
/-- a local list that is changed -/
def MuR (H0 : Hp) (ps : Option Addr) (F H : Hp) (v : V) (xs : List D) : Prop := ∃ p vs, v = .ref p ∧ F p = none ∧ H p = some (.lst vs) ∧ Rps K mg F vs xs ∧ H0 p = none ∧ some p ≠ ps
abbrev SlR (H0 : Hp) (ps : Option Addr) (F H : Hp) (v : V) (d : D) : Prop := Rp K mg F v d ∨ (∃ xs, d = D.mu xs ∧ MuR K mg H0 ps F H v xs) ∨ (d = .st ∧ ∃ p, ps = some p ∧ v = .ref p)
structure En (H0 : Hp) (ps : Option Addr) (F H : Hp) (σ : L2.St) (ρ : DE) (S : List D) : Prop where
  fh : Ex F H
  st : StR K mg ps F H S
  len : σ.length = ρ.length
  sl : ∀ (i : Nat) (d : D), ρ[i]? = some (some d) → ∃ v, σ[i]? = some (some v) ∧ SlR K mg H0 ps F H v d
  mne : ∀ (i j : Nat) (xs ys : List D) (v : V), i ≠ j → ρ[i]? = some (some (D.mu xs)) → σ[i]? = some (some v) → ρ[j]? = some (some (D.mu ys)) → σ[j]? ≠ some (some v)
/-- a value at hand -/
abbrev VR (ps : Option Addr) (σ : L2.St) (ρ : DE) (F : Hp) (v : V) (d : D) : Prop := Rp K mg F v d ∨ (∃ (i : Nat) (xs : List D), d = D.mu xs ∧ ρ[i]? = some (some (D.mu xs)) ∧ σ[i]? = some (some v)) ∨ (d = .st ∧ ∃ p, ps = some p ∧ v = .ref p)
inductive VRs (ps : Option Addr) (σ : L2.St) (ρ : DE) (F : Hp) : List V → List D → Prop
  | nil : VRs ps σ ρ F [] []
  | cons {v : V} {vs : List V} {d : D} {ds : List D} : VR K mg ps σ ρ F v d → VRs ps σ ρ F vs ds → VRs ps σ ρ F (v :: vs) (d :: ds)
/-- the fields of an exception -/
def ExR (F H : Hp) (cls : Value) (dx : Option Addr) (c : Str) (fs : List (Str × D)) : Prop := ∃ C, mg c = some (.ref C) ∧ cls = .ref C ∧
  (fs = [] ∨ ∃ a vs, dx = some a ∧ H a = some (.xd ((fs.map (·.1)).zip vs)) ∧ Rps K mg F vs (fs.map (·.2)))
end

section
variable {K : PySem.W.Frag} {mg : Str → Option Value} {H0 : Hp} {ps : Option Addr} {F H F1 H1 F2 H2 : Hp} {σ : L2.St} {ρ : DE} {S S1 S2 : List D}
theorem Grow.trans (st : StR K mg ps F H S) (a : Grow ps F H F1 H1) (st1 : StR K mg ps F1 H1 S1) (b : Grow ps F1 H1 F2 H2) : Grow ps F H F2 H2 := by
  refine ⟨a.ff.trans b.ff, b.fh, fun x h => ?_, fun x o h n => b.hh x o (a.hh x o h n) n⟩
  have h1 : H1 x ≠ none := by
    by_cases z : some x = ps
    · obtain ⟨_, vs, q, _⟩ := st1.1 x z.symm
      rw [q]; intro q; cases q
    · cases q : H x with
      | none => exact absurd q h
      | some o => rw [a.hh x o q z]; intro q; cases q
  rw [b.fr x h1, a.fr x h]
theorem StR.new {p : Addr} {o : HO} (st : StR K mg ps F H S) (e : Ex F H) (h : H p = none) : StR K mg ps (upd F p o) (upd H p o) S := ⟨fun q hq => by
  obtain ⟨h1, vs, h2, h3⟩ := st.1 q hq
  have n : q ≠ p := fun z => by rw [z, h] at h2; cases h2
  exact ⟨by rw [upd_ne n]; exact h1, vs, by rw [upd_ne n]; exact h2, h3.mono (Ex.new (fresh_back e h))⟩, st.2⟩
theorem MuR.grow {v : V} {xs : List D} (m : MuR K mg H0 ps F H v xs) (g : Grow ps F H F1 H1) : MuR K mg H0 ps F1 H1 v xs := by
  obtain ⟨p, vs, rfl, h1, h2, h3, h4, h5⟩ := m
  refine ⟨p, vs, rfl, ?_, g.hh p _ h2 h5, h3.mono g.ff, h4, h5⟩
  rw [g.fr p (by rw [h2]; intro q; cases q)]; exact h1
theorem SlR.grow {v : V} {d : D} (m : SlR K mg H0 ps F H v d) (g : Grow ps F H F1 H1) : SlR K mg H0 ps F1 H1 v d := by
  rcases m with m | ⟨xs, e, m⟩ | m
  · exact .inl (m.mono g.ff)
  · exact .inr (.inl ⟨xs, e, m.grow g⟩)
  · exact .inr (.inr m)
theorem En.grow (e : En K mg H0 ps F H σ ρ S) (g : Grow ps F H F1 H1) (st : StR K mg ps F1 H1 S1) : En K mg H0 ps F1 H1 σ ρ S1 :=
  ⟨g.fh, st, e.len, fun i d h => by obtain ⟨v, h1, h2⟩ := e.sl i d h; exact ⟨v, h1, h2.grow g⟩, e.mne⟩
theorem VR.mono {v : V} {d : D} (r : VR K mg ps σ ρ F v d) (e : Ex F F1) : VR K mg ps σ ρ F1 v d := by
  rcases r with r | r | r
  · exact .inl (r.mono e)
  · exact .inr (.inl r)
  · exact .inr (.inr r)
theorem VRs.mono (e : Ex F F1) : ∀ {vs : List V} {ds : List D}, VRs K mg ps σ ρ F vs ds → VRs K mg ps σ ρ F1 vs ds
  | _, _, .nil => .nil
  | _, _, .cons a r => .cons (a.mono e) (VRs.mono e r)
theorem VR.rp {v : V} {d : D} (r : VR K mg ps σ ρ F v d) (h : dat d = true) : Rp K mg F v d := by
  rcases r with r | ⟨i, xs, e, _⟩ | ⟨e, _⟩
  · exact r
  · subst e; cases h
  · subst e; cases h
theorem Rp.dat {v : V} {d : D} (r : Rp K mg F v d) : dat d = true := by cases r <;> rfl
theorem VRs.rps : ∀ {vs : List V} {ds : List D}, VRs K mg ps σ ρ F vs ds → allDat ds = true → Rps K mg F vs ds
  | _, _, .nil, _ => .nil
  | _, _, .cons a r, h => by
    unfold allDat at h
    rw [List.all_cons, Bool.and_eq_true] at h
    exact .cons (a.rp h.1) (VRs.rps r h.2)
/-- what has items: a list or a tuple -/
theorem En.items {v : V} {d : D} {xs : List D} (e : En K mg H0 ps F H σ ρ S) (r : VR K mg ps σ ρ F v d) (h : items d = some xs) : ∃ p vs, v = .ref p ∧ (SqL K H p vs ∨ SqT K H p vs) ∧ Rps K mg F vs xs := by
  rcases r with r | ⟨i, ys, rfl, h1, h2⟩ | ⟨rfl, _⟩
  · cases r <;> first | (cases h; done) | skip
    · cases h; rename_i a vs q r; exact ⟨a, vs, rfl, .inl (sq_of (e.fh _ _ q)), r⟩
    · cases h; rename_i a vs q r; exact ⟨a, vs, rfl, .inr (ex_t e.fh q), r⟩
    · cases h; rename_i a vs q r; exact ⟨a, vs, rfl, .inl (ex_l e.fh q), r⟩
  · cases h
    obtain ⟨w, h3, h4⟩ := e.sl i _ h1
    rw [h2] at h3; cases h3
    rcases h4 with h4 | ⟨zs, q, m⟩ | ⟨q, _⟩
    · cases h4
    · cases q
      obtain ⟨p, vs, rfl, _, m2, m3, _⟩ := m
      exact ⟨p, vs, rfl, .inl (sq_of m2), m3⟩
    · cases q
  · cases h
end

/-! ### computations -/
section
variable (K : PySem.W.Frag) (mg : Str → Option Value) (E : XK)
def Ps {α : Type} (ps : Option Addr) (F H : Hp) (r : R α) (P : α → List D → Hp → Hp → Prop) : Prop := match r with
  | .bad => False
  | .ok a S' => ∀ F' H', Grow ps F H F' H' → StR K mg ps F' H' S' → P a S' F' H'
  | .exc c fs S' => ∀ cls dx F' H', Grow ps F H F' H' → StR K mg ps F' H' S' → ExR K mg F' H' cls dx c fs → E cls dx H'
def tD (φ : DE → M D) : TE := fun σ H Q => ∃ H0 ps F ρ S, En K mg H0 ps F H σ ρ S ∧ Ps K mg E ps F H (φ ρ S) fun d _ F' H' => ∀ v, VR K mg ps σ ρ F' v d → Q v H'
def tDA (φ : DE → M (List D)) : TA := fun σ H Q => ∃ H0 ps F ρ S, En K mg H0 ps F H σ ρ S ∧ Ps K mg E ps F H (φ ρ S) fun ds _ F' H' => ∀ vs, VRs K mg ps σ ρ F' vs ds → Q vs H'
def tDT (φ : DE → M Bool) : TT := fun σ H Q => ∃ H0 ps F ρ S, En K mg H0 ps F H σ ρ S ∧ Ps K mg E ps F H (φ ρ S) fun b _ _ H' => Q b H'
def tDO (φ : DE → M (Option Int)) : TO := fun σ H Q => ∃ H0 ps F ρ S, En K mg H0 ps F H σ ρ S ∧ Ps K mg E ps F H (φ ρ S) fun b _ _ H' => Q b H'
/-- a new list, not yet among the kept -/
def tDL (φ : DE → M (List D)) : TE := fun σ H Q => ∃ H0 ps F ρ S, En K mg H0 ps F H σ ρ S ∧ Ps K mg E ps F H (φ ρ S) fun ds _ F' H' => ∀ p vs, H' p = none → Rps K mg F' vs ds → Q (.ref p) (upd H' p (.lst vs))
end
section
variable {K : PySem.W.Frag} {mg : Str → Option Value} {E : XK} {H0 : Hp} {ps : Option Addr} {F H F1 H1 F2 H2 : Hp} {σ : L2.St} {ρ : DE} {S S1 S2 : List D}
theorem Ps.imp {α : Type} {r : R α} {P P' : α → List D → Hp → Hp → Prop} (h : Ps K mg E ps F H r P) (k : ∀ a S' F' H', Grow ps F H F' H' → StR K mg ps F' H' S' → P a S' F' H' → P' a S' F' H') : Ps K mg E ps F H r P' := by
  cases r with
  | bad => exact h
  | ok a S' => exact fun F' H' g st => k a S' F' H' g st (h F' H' g st)
  | exc c fs S' => exact h
theorem Ps.bnd {α β : Type} {m : M α} {f : α → M β} {P : β → List D → Hp → Hp → Prop} (st : StR K mg ps F H S) (h : Ps K mg E ps F H (bnd m f S) P) :
    Ps K mg E ps F H (m S) fun a S1 F1 H1 => Ps K mg E ps F1 H1 (f a S1) P := by
  cases hm : m S with
  | bad => unfold DL.bnd at h; rw [hm] at h; exact h
  | exc c fs S' => unfold DL.bnd at h; rw [hm] at h; exact h
  | ok a S1 =>
    rw [bnd_ok hm] at h
    intro F1 H1 g st1
    cases hf : f a S1 with
    | bad => rw [hf] at h; exact h
    | ok b S2 => rw [hf] at h; exact fun F2 H2 g2 st2 => h F2 H2 (Grow.trans st g st1 g2) st2
    | exc c fs S2 => rw [hf] at h; exact fun cls dx F2 H2 g2 st2 => h cls dx F2 H2 (Grow.trans st g st1 g2) st2
theorem Ps.opt {α : Type} {o : Option α} {P : α → List D → Hp → Hp → Prop} (h : Ps K mg E ps F H (opt o S) P) : ∃ a, o = some a ∧ ∀ F' H', Grow ps F H F' H' → StR K mg ps F' H' S → P a S F' H' := by
  cases o with
  | none => exact h.elim
  | some a => exact ⟨a, rfl, h⟩
theorem Ps.ret {α : Type} {a : α} {P : α → List D → Hp → Hp → Prop} (h : Ps K mg E ps F H (ret a S) P) : ∀ F' H', Grow ps F H F' H' → StR K mg ps F' H' S → P a S F' H' := h
end
theorem pe_imp {X : Cx} {e : Expr} {t t' : TE} (h : PE X e t) (k : ∀ σ H Q, t' σ H Q → t σ H Q) : PE X e t' := ⟨fun pins s σ H Q I q => h.run pins s σ H Q I (k σ H Q q)⟩
theorem pt_imp {X : Cx} {e : Expr} {t t' : TT} (h : PT X e t) (k : ∀ σ H Q, t' σ H Q → t σ H Q) : PT X e t' := ⟨fun pins s σ H Q I q => h.run pins s σ H Q I (k σ H Q q)⟩
theorem pw_imp {X : Cx} {e : Expr} {t t' : TT} (h : PW X e t) (k : ∀ σ H Q, t' σ H Q → t σ H Q) : PW X e t' := ⟨fun w pins s σ H Q I q => h.run w pins s σ H Q I (k σ H Q q)⟩
theorem pa_imp {X : Cx} {e : List Expr} {t t' : TA} (h : PA X e t) (k : ∀ σ H Q, t' σ H Q → t σ H Q) : PA X e t' := ⟨fun pos pins s σ H Q I q => h.run pos pins s σ H Q I (k σ H Q q)⟩
theorem po_imp {X : Cx} {e : Option Expr} {t t' : TO} (h : PO X e t) (k : ∀ σ H Q, t' σ H Q → t σ H Q) : PO X e t' := ⟨fun pins s σ H Q I q => h.run pins s σ H Q I (k σ H Q q)⟩
theorem ps_imp {X : Cx} {e : Stmt} {t t' : TS} (h : PS X e t) (k : ∀ D σ H, t' D σ H → t D σ H) : PS X e t' := ⟨fun pins s σ H D I q => h.run pins s σ H D I (k D σ H q)⟩
theorem pss_imp {X : Cx} {e : List Stmt} {t t' : TS} (h : PSs X e t) (k : ∀ D σ H, t' D σ H → t D σ H) : PSs X e t' := ⟨fun pins s σ H D I q => h.run pins s σ H D I (k D σ H q)⟩

/-! ### expressions -/
section
variable {X : Cx} {mg : Str → Option Value} {E : XK} {a b e : Expr} {es : List Expr} {φ ψ : DE → M D} {pos : Pos}
theorem d_var (i : Nat) {x : Str} (hN : X.N[i]? = some x := by rfl) (hv : Vis X.env.scope x := by first | exact Or.inl rfl | exact Or.inr (Or.inl rfl) | exact Or.inr (Or.inr rfl)) (hd : (x == ("__debug__" : Str)) = false := by decide) (hcd : (x == ("__classdict__" : Str)) = false := by decide) :
    PE X (.Name x pos) (tD X.K mg E (eV i)) := pe_imp (pe_var hN hv hd hcd) fun σ H Q => by
  rintro ⟨H0, ps, F, ρ, S, env, h⟩
  unfold eV at h
  cases hj : ρ[i]? with
  | none => rw [hj] at h; exact h.elim
  | some o =>
    rw [hj] at h
    cases o with
    | none => exact h.elim
    | some d =>
      obtain ⟨v, h1, h2⟩ := env.sl i d hj
      refine ⟨v, h1, h F H (Grow.refl env.fh) env.st v ?_⟩
      rcases h2 with h2 | ⟨xs, rfl, _⟩ | h2
      · exact .inl h2
      · exact .inr (.inl ⟨i, xs, rfl, hj, h1⟩)
      · exact .inr (.inr h2)
theorem d_const {v : V} {d : D} (h : PE X e (tC v)) (r : ∀ F, Rp X.K mg F v d) : PE X e (tD X.K mg E (eC d)) := pe_imp h fun σ H Q => by
  rintro ⟨H0, ps, F, ρ, S, env, h⟩
  exact h F H (Grow.refl env.fh) env.st v (.inl (r F))
theorem d_int {i : Int} {j} : PE X (.Constant (.int i) j pos) (tD X.K mg E (eC (.int i))) := d_const pe_int fun _ => .int i
theorem d_bl {b : Bool} {j} : PE X (.Constant (.bool b) j pos) (tD X.K mg E (eC (.bl b))) := d_const pe_bl fun _ => .bl b
theorem d_non {j} : PE X (.Constant .none j pos) (tD X.K mg E (eC .non)) := d_const pe_non fun _ => .non
theorem d_str {x : Str} {j} : PE X (.Constant (.str x) j pos) (tD X.K mg E (eC (.str x))) := d_const pe_str fun _ => .str x
/-- a built-in type as a value -/
theorem d_ty {x : Str} {n : String} (hg : Gl X x) (hm : X.mg x = none) (hv : bootBuiltins x = some (.type n)) (hn : x ≠ "__name__" := by decide) (hd : (x == ("__debug__" : Str)) = false := by decide) : PE X (.Name x pos) (tD X.K mg E (eC (.ty n))) :=
  d_const (pe_bltn (v := .ty n) hg hm hv rfl hn hd) fun _ => .ty n

/-- an operation of two values -/
def Op2 (K : PySem.W.Frag) (mg : Str → Option Value) (r : R2) (f : D → D → Option D) : Prop := ∀ (H0 : Hp) (ps : Option Addr) (F H : Hp) (σ : L2.St) (ρ : DE) (S : List D) (x y : V) (d e z : D) (Q : VK),
  En K mg H0 ps F H σ ρ S → VR K mg ps σ ρ F x d → VR K mg ps σ ρ F y e → f d e = some z → (∀ v F' H', Grow ps F H F' H' → StR K mg ps F' H' S → VR K mg ps σ ρ F' v z → Q v H') → r x y H Q
def Op1 (K : PySem.W.Frag) (mg : Str → Option Value) (r : V → Hp → VK → Prop) (f : D → Option D) : Prop := ∀ (H0 : Hp) (ps : Option Addr) (F H : Hp) (σ : L2.St) (ρ : DE) (S : List D) (x : V) (d z : D) (Q : VK),
  En K mg H0 ps F H σ ρ S → VR K mg ps σ ρ F x d → f d = some z → (∀ v F' H', Grow ps F H F' H' → StR K mg ps F' H' S → VR K mg ps σ ρ F' v z → Q v H') → r x H Q
def OpN (K : PySem.W.Frag) (mg : Str → Option Value) (r : List V → Hp → VK → Prop) (f : List D → Option D) : Prop := ∀ (H0 : Hp) (ps : Option Addr) (F H : Hp) (σ : L2.St) (ρ : DE) (S : List D) (xs : List V) (ds : List D) (z : D) (Q : VK),
  En K mg H0 ps F H σ ρ S → VRs K mg ps σ ρ F xs ds → f ds = some z → (∀ v F' H', Grow ps F H F' H' → StR K mg ps F' H' S → VR K mg ps σ ρ F' v z → Q v H') → r xs H Q
theorem go2 {r : R2} {f : D → D → Option D} (hf : Op2 X.K mg r f) : ∀ σ H Q, tD X.K mg E (e2 f φ ψ) σ H Q → tOp r (tD X.K mg E φ) (tD X.K mg E ψ) σ H Q := by
  rintro σ H Q ⟨H0, ps, F, ρ, S, env, h⟩
  refine ⟨H0, ps, F, ρ, S, env, (Ps.bnd env.st h).imp fun x S1 F1 H1 g1 st1 h1 v hv => ?_⟩
  have env1 := env.grow g1 st1
  refine ⟨H0, ps, F1, ρ, S1, env1, (Ps.bnd st1 h1).imp fun y S2 F2 H2 g2 st2 h2 u hu => ?_⟩
  obtain ⟨z, e, k⟩ := h2.opt
  exact hf H0 ps F2 H2 σ ρ S2 v u x y z Q (env1.grow g2 st2) (hv.mono g2.ff) hu e fun w F' H' g st r => k F' H' g st w r
theorem d_op {op : Operator} {r : R2} {f : D → D → Option D} (ho : OpR X (binaryOp op) r) (hf : Op2 X.K mg r f) (ha : PE X a (tD X.K mg E φ)) (hb : PE X b (tD X.K mg E ψ)) : PE X (.BinOp a op b pos) (tD X.K mg E (e2 f φ ψ)) :=
  pe_imp (pe_op ho ha hb) (go2 hf)
theorem d_cmp {op : CmpOp} {r : R2} {f : D → D → Option D} (ho : OpR X (compareOp op) r) (hf : Op2 X.K mg r f) (ha : PE X a (tD X.K mg E φ)) (hb : PE X b (tD X.K mg E ψ)) (hm : behindInMarks op b = false) : PE X (.Compare a [op] [b] pos) (tD X.K mg E (e2 f φ ψ)) :=
  pe_imp (pe_cmpR ho ha hb hm) (go2 hf)
theorem go1 {r : V → Hp → VK → Prop} {f : D → Option D} (hf : Op1 X.K mg r f) : ∀ σ H Q, tD X.K mg E (e1 f φ) σ H Q → tUn r (tD X.K mg E φ) σ H Q := by
  rintro σ H Q ⟨H0, ps, F, ρ, S, env, h⟩
  refine ⟨H0, ps, F, ρ, S, env, (Ps.bnd env.st h).imp fun x S1 F1 H1 g1 st1 h1 v hv => ?_⟩
  obtain ⟨z, e, k⟩ := h1.opt
  exact hf H0 ps F1 H1 σ ρ S1 v x z Q (env.grow g1 st1) hv e fun w F' H' g st r => k F' H' g st w r
theorem d_un {op : UnaryOp} {r : V → Hp → VK → Prop} {f : D → Option D} (ho : UnR X (unaryOp op) r) (hf : Op1 X.K mg r f) (ha : PE X a (tD X.K mg E φ)) : PE X (.UnaryOp op a pos) (tD X.K mg E (e1 f φ)) :=
  pe_imp (pe_un ho ha) (go1 hf)
/-- argument lists -/
theorem d_nil : PA X [] (tDA X.K mg E aN) := pa_imp pa_nil fun σ H Q => by
  rintro ⟨H0, ps, F, ρ, S, env, h⟩
  exact h F H (Grow.refl env.fh) env.st [] .nil
theorem d_cons {α : DE → M (List D)} (ha : PE X e (tD X.K mg E φ)) (hr : PA X es (tDA X.K mg E α)) (hs : starEach (e :: es) X.env = (false, eval e X.env) :: starEach es X.env := by rfl) : PA X (e :: es) (tDA X.K mg E (aC φ α)) :=
  pa_imp (pa_cons ha hr hs) fun σ H Q => by
  rintro ⟨H0, ps, F, ρ, S, env, h⟩
  refine ⟨H0, ps, F, ρ, S, env, (Ps.bnd env.st h).imp fun x S1 F1 H1 g1 st1 h1 v hv => ?_⟩
  refine ⟨H0, ps, F1, ρ, S1, env.grow g1 st1, (Ps.bnd st1 h1).imp fun y S2 F2 H2 g2 st2 h2 u hu => ?_⟩
  exact h2.ret F2 H2 (Grow.refl g2.fh) st2 _ (.cons (hv.mono g2.ff) hu)
theorem goN {α : DE → M (List D)} {r : List V → Hp → VK → Prop} {f : List D → Option D} (hf : OpN X.K mg r f) : ∀ σ H Q, tD X.K mg E (eB f α) σ H Q → tCB r (tDA X.K mg E α) σ H Q := by
  rintro σ H Q ⟨H0, ps, F, ρ, S, env, h⟩
  refine ⟨H0, ps, F, ρ, S, env, (Ps.bnd env.st h).imp fun x S1 F1 H1 g1 st1 h1 v hv => ?_⟩
  obtain ⟨z, e, k⟩ := h1.opt
  exact hf H0 ps F1 H1 σ ρ S1 v x z Q (env.grow g1 st1) hv e fun w F' H' g st r => k F' H' g st w r
/-- a built-in function, a built-in type called -/
theorem d_bi {id : String} {x : Str} {p : Pos} {α : DE → M (List D)} {r : List V → Hp → VK → Prop} {f : List D → Option D} (hc : CallR X (.builtin id) r) (hf : OpN X.K mg r f) (hg : Gl X x) (hm : X.mg x = none) (hv : bootBuiltins x = some (.builtin id)) (ha : PA X (e :: es) (tDA X.K mg E α)) (hn : x ≠ "__name__" := by decide) (hdb : (x == ("__debug__" : Str)) = false := by decide)
    (he : starEach (e :: es) X.env = (false, eval e X.env) :: starEach es X.env := by rfl) (hpl : (backTo pos (starEach es X.env)).any (·.1) = false := by rfl) : PE X (.Call (.Name x p) (e :: es) [] pos) (tD X.K mg E (eB f α)) :=
  pe_imp (pe_callB hc hg hm hv ha hn hdb he hpl) (goN hf)
theorem d_tyc {T : String} {x : Str} {p : Pos} {α : DE → M (List D)} {r : List V → Hp → VK → Prop} {f : List D → Option D} (hc : CallR X (.type T) r) (hf : OpN X.K mg r f) (hg : Gl X x) (hm : X.mg x = none) (hv : bootBuiltins x = some (.type T)) (ha : PA X (e :: es) (tDA X.K mg E α)) (hn : x ≠ "__name__" := by decide) (hdb : (x == ("__debug__" : Str)) = false := by decide)
    (he : starEach (e :: es) X.env = (false, eval e X.env) :: starEach es X.env := by rfl) (hpl : (backTo pos (starEach es X.env)).any (·.1) = false := by rfl) : PE X (.Call (.Name x p) (e :: es) [] pos) (tD X.K mg E (eB f α)) :=
  pe_imp (pe_callTy hc hg hm hv ha hn hdb he hpl) (goN hf)
/-- x[i] -/
theorem d_ix (ha : PE X a (tD X.K mg E φ)) (hb : PE X b (tD X.K mg E ψ)) (hs : PlainIx b) : PE X (.Subscript a b pos) (tD X.K mg E (eIx φ ψ)) := pe_imp (pe_ix ix_seq ha hb hs) fun σ H Q => by
  rintro ⟨H0, ps, F, ρ, S, env, h⟩
  refine ⟨H0, ps, F, ρ, S, env, (Ps.bnd env.st h).imp fun x S1 F1 H1 g1 st1 h1 v hv => ?_⟩
  have env1 := env.grow g1 st1
  refine ⟨H0, ps, F1, ρ, S1, env1, (Ps.bnd st1 h1).imp fun y S2 F2 H2 g2 st2 h2 u hu => ?_⟩
  have env2 := env1.grow g2 st2
  obtain ⟨z, e, k⟩ := h2.opt
  have k := k F2 H2 (Grow.refl g2.fh) st2
  replace hv := hv.mono g2.ff
  clear h1 h
  cases y <;> first | (unfold dIx at e; cases e; done) | skip
  rename_i i
  have hu := hu.rp rfl
  cases hu
  -- a list or a tuple
  have seq : ∀ xs, items x = some xs → atI xs i = some z → rIx X.K v (.int i) H2 Q := by
    intro xs hx hi
    obtain ⟨p, vs, rfl, hq, r⟩ := env2.items hv hx
    obtain ⟨j, e1, e2, _⟩ := atI_get hi
    obtain ⟨w, hw, rw'⟩ := r.get e2
    have hat : atI vs i = some w := by
      unfold atI at hi ⊢
      rw [r.length]
      cases hn : ixN xs.length i with
      | none => rw [hn] at hi; cases hi
      | some j' =>
        have := (ixN_seq hn).1
        rw [e1] at this; cases this
        exact hw
    rcases hq with hq | hq
    · exact .inl ⟨p, vs, i, w, rfl, rfl, hq, hat, k w (.inl rw')⟩
    · exact .inr (.inl ⟨p, vs, i, w, rfl, rfl, hq, hat, k w (.inl rw')⟩)
  cases x <;> first | (unfold dIx at e; simp only [items] at e; cases e; done) | skip
  case str zz =>
    unfold dIx at e
    simp only at e
    split at e
    · rename_i hl
      cases hat : atI zz.cps.toList i with
      | none => rw [hat] at e; cases e
      | some c =>
        rw [hat] at e; cases e
        have := hv.rp rfl
        cases this
        exact .inr (.inr ⟨zz, i, c, rfl, rfl, sz_of hl, hat, k _ (.inl (.str _))⟩)
    · cases e
  case lst => exact seq _ rfl e
  case tup => exact seq _ rfl e
  case scr => exact seq _ rfl e
  case mu => exact seq _ rfl e
  case st =>
    have e : atI S2 i = some z := e
    rcases hv with hv | ⟨_, _, q, _⟩ | ⟨_, p, hp, rfl⟩
    · cases hv
    · cases q
    · obtain ⟨_, vs, hq, r⟩ := st2.1 p hp
      obtain ⟨j, e1, e2, _⟩ := atI_get e
      obtain ⟨w, hw, rw'⟩ := r.get e2
      have hat : atI vs i = some w := by
        unfold atI at e ⊢
        rw [r.length]
        cases hn : ixN S2.length i with
        | none => rw [hn] at e; cases e
        | some j' =>
          have := (ixN_seq hn).1
          rw [e1] at this; cases this
          exact hw
      exact .inl ⟨p, vs, i, w, rfl, rfl, sq_of hq, hat, k w (.inl rw')⟩
/-- tuples -/
theorem d_tup {α : DE → M (List D)} {x1} (h : PA X es (tDA X.K mg E α)) : PE X (.Tuple es x1 pos) (tD X.K mg E (eTup α)) := pe_imp (pe_tup h) fun σ H Q => by
  rintro ⟨H0, ps, F, ρ, S, env, h⟩
  refine ⟨H0, ps, F, ρ, S, env, (Ps.bnd env.st h).imp fun ds S1 F1 H1 g1 st1 h1 vs hv => ?_⟩
  split at h1
  · rename_i hc
    rw [Bool.and_eq_true, decide_eq_true_eq] at hc
    have r := hv.rps hc.1
    refine ⟨sz_of (by rw [r.length]; exact hc.2), fun p hp => ?_⟩
    exact h1.ret _ _ (Grow.new g1.fh hp) (st1.new g1.fh hp) _ (.inl (.tup (st_of upd_same) (r.mono (Ex.new (fresh_back g1.fh hp)))))
  · exact h1.elim
/-- a new list as a value that is kept -/
theorem d_L {l : DE → M (List D)} (h : PE X e (tDL X.K mg E l)) : PE X e (tD X.K mg E (eL l)) := pe_imp h fun σ H Q => by
  rintro ⟨H0, ps, F, ρ, S, env, h⟩
  refine ⟨H0, ps, F, ρ, S, env, (Ps.bnd env.st h).imp fun ds S1 F1 H1 g1 st1 h1 p vs hp r => ?_⟩
  exact h1.ret _ _ (Grow.new g1.fh hp) (st1.new g1.fh hp) _ (.inl (.lst upd_same (r.mono (Ex.new (fresh_back g1.fh hp)))))
theorem l_lst {α : DE → M (List D)} (h : PA X es (tDA X.K mg E α)) : PE X (.List es pos) (tDL X.K mg E (lLst α)) := pe_imp (pe_lst h) fun σ H Q => by
  rintro ⟨H0, ps, F, ρ, S, env, h⟩
  refine ⟨H0, ps, F, ρ, S, env, (Ps.bnd env.st h).imp fun ds S1 F1 H1 g1 st1 h1 vs hv => ?_⟩
  split at h1
  · rename_i hc
    rw [Bool.and_eq_true, decide_eq_true_eq] at hc
    have r := hv.rps hc.1
    exact ⟨sz_of (by rw [r.length]; exact hc.2), fun p hp => h1.ret _ _ (Grow.refl g1.fh) st1 p vs hp r⟩
  · exact h1.elim
end
end DL

namespace DL
open PySem PySem.Spec PyProof.Rows L2 Evl

/-! ### operators -/
section
variable {K : PySem.W.Frag} {mg : Str → Option Value}
def rAddD (K : PySem.W.Frag) : R2 := fun x y H Q => rI0 (fun i j => .int (i + j)) x y H Q ∨ (∃ i j, x = V.str i ∧ y = .str j ∧ i.length + j.length ≤ sizeLine ∧ Q (.str (i ++ j)) H) ∨ rCatA K x y H Q ∨ rCat x y H Q
theorem op_addD {X : Cx} : OpR X (binaryOp .Add) (rAddD X.K) := op_add.or (op_add_str.or (op_catA.or op_cat))
/-- two values that need no heap -/
theorem op2_flat {r : R2} {f : D → D → Option D} (h : ∀ d e z, f d e = some z → DL.dat d = true ∧ DL.dat e = true ∧ (∀ (F H : Hp) x y (Q : VK), Rp K mg F x d → Rp K mg F y e → (∀ v, (∀ F, Rp K mg F v z) → Q v H) → r x y H Q)) : Op2 K mg r f := by
  intro H0 ps F H σ ρ S x y d e z Q env hx hy hf k
  obtain ⟨h1, h2, h3⟩ := h d e z hf
  exact h3 F H x y Q (hx.rp h1) (hy.rp h2) fun v hv => k v F H (Grow.refl env.fh) env.st (.inl (hv F))
theorem op1_flat {r : V → Hp → VK → Prop} {f : D → Option D} (h : ∀ d z, f d = some z → DL.dat d = true ∧ (∀ (F H : Hp) x (Q : VK), Rp K mg F x d → (∀ v, (∀ F, Rp K mg F v z) → Q v H) → r x H Q)) : Op1 K mg r f := by
  intro H0 ps F H σ ρ S x d z Q env hx hf k
  obtain ⟨h1, h3⟩ := h d z hf
  exact h3 F H x Q (hx.rp h1) fun v hv => k v F H (Grow.refl env.fh) env.st (.inl (hv F))
theorem s_add : Op2 K mg (rAddD K) dAdd := by
  intro H0 ps F H σ ρ S x y d e z Q env hx hy hf k
  unfold dAdd at hf
  split at hf
  · cases hf
    have hx := hx.rp rfl
    have hy := hy.rp rfl
    cases hx; cases hy
    exact .inl ⟨_, _, rfl, rfl, k _ F H (Grow.refl env.fh) env.st (.inl (.int _))⟩
  · split at hf
    · rename_i hl
      cases hf
      have hx := hx.rp rfl
      have hy := hy.rp rfl
      cases hx; cases hy
      exact .inr (.inl ⟨_, _, rfl, rfl, sz_of hl, k _ F H (Grow.refl env.fh) env.st (.inl (.str _))⟩)
    · cases hf
  · split at hf
    · rename_i xs ys hl
      cases hf
      have hx := hx.rp rfl
      have hy := hy.rp rfl
      cases hx with
      | tup q1 r1 =>
        rename_i a vs
        cases hy with
        | tup q2 r2 =>
          rename_i b ws
          refine .inr (.inr (.inl ⟨a, b, vs, ws, rfl, rfl, ex_t env.fh q1, ex_t env.fh q2, by rw [r1.length, r2.length]; exact sz_of hl, fun h => ?_, fun h1 h2 => ?_, fun h1 h2 p hp => ?_⟩))
          · subst h
            cases r1
            exact k _ F H (Grow.refl env.fh) env.st (.inl (.tup q2 r2))
          · subst h2
            cases r2
            rw [List.append_nil] at k
            exact k _ F H (Grow.refl env.fh) env.st (.inl (.tup q1 r1))
          · exact k _ _ _ (Grow.new env.fh hp) (env.st.new env.fh hp) (.inl (.tup (st_of upd_same) ((r1.append r2).mono (Ex.new (fresh_back env.fh hp)))))
    · cases hf
  · split at hf
    · rename_i xs ys hl
      cases hf
      have hx := hx.rp rfl
      have hy := hy.rp rfl
      cases hx with
      | lst q1 r1 =>
        cases hy with
        | lst q2 r2 =>
          exact .inr (.inr (.inr ⟨_, _, _, _, rfl, rfl, env.fh _ _ q1, env.fh _ _ q2, by rw [r1.length, r2.length]; exact sz_of hl, fun p hp =>
            k _ _ _ (Grow.new env.fh hp) (env.st.new env.fh hp) (.inl (.lst upd_same ((r1.append r2).mono (Ex.new (fresh_back env.fh hp)))))⟩))
    · cases hf
  · cases hf
theorem s_sub : Op2 K mg (rI0 fun i j => .int (i - j)) dSub := op2_flat fun d e z h => by
  unfold dSub at h
  split at h
  · cases h
    refine ⟨rfl, rfl, fun F H x y Q hx hy k => ?_⟩
    cases hx; cases hy
    exact ⟨_, _, rfl, rfl, k _ fun _ => .int _⟩
  · cases h
def rMulD : R2 := fun x y H Q => rI CMulW (fun i j => .int (i * j)) x y H Q ∨ rI CMul (fun i j => .int (i * j)) x y H Q ∨ rRep x y H Q
theorem op_mulD {X : Cx} : OpR X (binaryOp .Mult) rMulD := op_mulW.or (op_mul.or op_rep)
theorem s_mul : Op2 K mg rMulD dMul := by
  intro H0 ps F H σ ρ S x y d e z Q env hx hy h k
  unfold dMul at h
  split at h
  · split at h
    · rename_i i j hm
      cases h
      have hx := hx.rp rfl
      have hy := hy.rp rfl
      cases hx; cases hy
      unfold mulOk at hm
      rw [Bool.or_eq_true, Bool.and_eq_true, decide_eq_true_eq, decide_eq_true_eq, decide_eq_true_eq] at hm
      have k := k _ F H (Grow.refl env.fh) env.st (.inl (.int _))
      rcases hm with hm | hm
      · exact .inl ⟨_, _, rfl, rfl, hm, k⟩
      · exact .inr (.inl ⟨_, _, rfl, rfl, .inr hm, k⟩)
    · cases h
  · split at h
    · rename_i xs n hm
      cases h
      have hx := hx.rp rfl
      have hy := hy.rp rfl
      cases hx with
      | lst q r =>
        cases hy
        exact .inr (.inr ⟨_, _, _, rfl, rfl, env.fh _ _ q, by have := hm.2.1; omega, by have := hm.1; omega, by rw [r.length]; exact sz_of hm.2.2, fun p hp =>
          k _ _ _ (Grow.new env.fh hp) (env.st.new env.fh hp) (.inl (.lst upd_same ((r.flat _).mono (Ex.new (fresh_back env.fh hp)))))⟩)
    · cases h
  · cases h
theorem s_fdiv : Op2 K mg (rI CDivW fun i j => .int (i / j)) dFdiv := op2_flat fun d e z h => by
  unfold dFdiv at h
  split at h
  · split at h
    · rename_i i j hm
      cases h
      refine ⟨rfl, rfl, fun F H x y Q hx hy k => ?_⟩
      cases hx; cases hy
      exact ⟨_, _, rfl, rfl, hm, k _ fun _ => .int _⟩
    · cases h
  · cases h
theorem s_mod : Op2 K mg (rI (fun _ j => 0 < j) fun i j => .int (i % j)) dMod := op2_flat fun d e z h => by
  unfold dMod at h
  split at h
  · split at h
    · rename_i i j hm
      cases h
      refine ⟨rfl, rfl, fun F H x y Q hx hy k => ?_⟩
      cases hx; cases hy
      exact ⟨_, _, rfl, rfl, hm, k _ fun _ => .int _⟩
    · cases h
  · cases h
theorem s_pow : Op2 K mg (rI CPow fun i j => .int (i ^ j.toNat)) dPow := op2_flat fun d e z h => by
  unfold dPow at h
  split at h
  · split at h
    · rename_i i j hm
      cases h
      refine ⟨rfl, rfl, fun F H x y Q hx hy k => ?_⟩
      cases hx; cases hy
      exact ⟨_, _, rfl, rfl, hm, k _ fun _ => .int _⟩
    · cases h
  · cases h
theorem s_neg : Op1 K mg (rU fun i => .int (-i)) dNeg := op1_flat fun d z h => by
  unfold dNeg at h
  split at h
  · cases h
    refine ⟨rfl, fun F H x Q hx k => ?_⟩
    cases hx
    exact ⟨_, rfl, k _ fun _ => .int _⟩
  · cases h
theorem s_lt : Op2 K mg (rI0 fun i j => .bl (decide (i < j))) dLt := op2_flat fun d e z h => by
  unfold dLt at h
  split at h
  · cases h
    refine ⟨rfl, rfl, fun F H x y Q hx hy k => ?_⟩
    cases hx; cases hy
    exact ⟨_, _, rfl, rfl, k _ fun _ => .bl _⟩
  · cases h
theorem s_le : Op2 K mg (rI0 fun i j => .bl (decide (i ≤ j))) dLe := op2_flat fun d e z h => by
  unfold dLe at h
  split at h
  · cases h
    refine ⟨rfl, rfl, fun F H x y Q hx hy k => ?_⟩
    cases hx; cases hy
    exact ⟨_, _, rfl, rfl, k _ fun _ => .bl _⟩
  · cases h
theorem s_gt : Op2 K mg (rI0 fun i j => .bl (decide (j < i))) dGt := op2_flat fun d e z h => by
  unfold dGt at h
  split at h
  · cases h
    refine ⟨rfl, rfl, fun F H x y Q hx hy k => ?_⟩
    cases hx; cases hy
    exact ⟨_, _, rfl, rfl, k _ fun _ => .bl _⟩
  · cases h
theorem s_ge : Op2 K mg (rI0 fun i j => .bl (decide (j ≤ i))) dGe := op2_flat fun d e z h => by
  unfold dGe at h
  split at h
  · cases h
    refine ⟨rfl, rfl, fun F H x y Q hx hy k => ?_⟩
    cases hx; cases hy
    exact ⟨_, _, rfl, rfl, k _ fun _ => .bl _⟩
  · cases h
theorem toPy_dat {d : D} {p : PyData} (h : toPy d = some p) : DL.dat d = true := by
  cases d <;> first | rfl | (unfold toPy at h; cases h)
theorem dEqB_some {a b : D} {t : Bool} (h : dEqB a b = some t) : ∃ p q, toPy a = some p ∧ toPy b = some q ∧ SeqAt.shaped p = true ∧ SeqAt.shaped q = true ∧ t = PyData.eqv p q := by
  unfold dEqB at h
  split at h
  · rename_i p q h1 h2
    split at h
    · rename_i h3
      rw [Bool.and_eq_true] at h3
      cases h
      exact ⟨p, q, h1, h2, h3.1, h3.2, rfl⟩
    · cases h
  · cases h
def rEqDD (K : PySem.W.Frag) : R2 := fun x y H Q => (∃ i j, x = V.int i ∧ y = .int j ∧ Q (.bl (decide (i = j))) H) ∨ rEqD K x y H Q
def rNeDD (K : PySem.W.Frag) : R2 := fun x y H Q => (∃ i j, x = V.int i ∧ y = .int j ∧ Q (.bl (!decide (i = j))) H) ∨ rNeD K x y H Q
theorem op_eqDD {X : Cx} (hu : X.A.units + 64 < cLine) : OpR X (compareOp .Eq) (rEqDD X.K) := by
  refine OpR.or (r := fun x y H Q => ∃ i j, x = V.int i ∧ y = .int j ∧ Q (.bl (decide (i = j))) H) ?_ (op_eqD hu)
  intro pins s σ H x y v u Q I rx ry h
  obtain ⟨i, j, rfl, rfl, q⟩ := h
  refine op_eq pins s σ H (.int i) (.int j) v u Q I rx ry ⟨rfl, ?_⟩
  rw [dec_int, show (i == j) = decide (i = j) from Bool.beq_eq_decide_eq i j]; exact q
theorem op_neDD {X : Cx} (hu : X.A.units + 64 < cLine) : OpR X (compareOp .NotEq) (rNeDD X.K) := by
  refine OpR.or (r := fun x y H Q => ∃ i j, x = V.int i ∧ y = .int j ∧ Q (.bl (!decide (i = j))) H) ?_ (op_neD hu)
  intro pins s σ H x y v u Q I rx ry h
  obtain ⟨i, j, rfl, rfl, q⟩ := h
  refine op_ne pins s σ H (.int i) (.int j) v u Q I rx ry ⟨rfl, ?_⟩
  rw [dec_int, show (i == j) = decide (i = j) from Bool.beq_eq_decide_eq i j]; exact q
theorem dEq_cases {d e z : D} (h : dEq d e = some z) : (∃ i j, d = .int i ∧ e = .int j ∧ z = .bl (decide (i = j))) ∨ ∃ t, dEqB d e = some t ∧ z = .bl t := by
  unfold dEq at h
  split at h
  · cases h; exact .inl ⟨_, _, rfl, rfl, rfl⟩
  · cases q : dEqB d e with
    | none => rw [q] at h; cases h
    | some t => rw [q] at h; cases h; exact .inr ⟨t, rfl, rfl⟩
theorem dNe_cases {d e z : D} (h : dNe d e = some z) : (∃ i j, d = .int i ∧ e = .int j ∧ z = .bl (!decide (i = j))) ∨ ∃ t, dEqB d e = some t ∧ z = .bl (!t) := by
  unfold dNe at h
  split at h
  · cases h; exact .inl ⟨_, _, rfl, rfl, rfl⟩
  · cases q : dEqB d e with
    | none => rw [q] at h; cases h
    | some t => rw [q] at h; cases h; exact .inr ⟨t, rfl, rfl⟩
theorem s_eq : Op2 K mg (rEqDD K) dEq := by
  intro H0 ps F H σ ρ S x y d e z Q env hx hy hf k
  rcases dEq_cases hf with ⟨i, j, rfl, rfl, rfl⟩ | ⟨t, h, rfl⟩
  · have hx := hx.rp rfl
    have hy := hy.rp rfl
    cases hx; cases hy
    exact .inl ⟨_, _, rfl, rfl, k _ F H (Grow.refl env.fh) env.st (.inl (.bl _))⟩
  · obtain ⟨p, q, h1, h2, h3, h4, rfl⟩ := dEqB_some h
    exact .inr ⟨p, q, Rp.dp env.fh _ (hx.rp (toPy_dat h1)) h1, Rp.dp env.fh _ (hy.rp (toPy_dat h2)) h2, h3, h4, k _ F H (Grow.refl env.fh) env.st (.inl (.bl _))⟩
theorem s_ne : Op2 K mg (rNeDD K) dNe := by
  intro H0 ps F H σ ρ S x y d e z Q env hx hy hf k
  rcases dNe_cases hf with ⟨i, j, rfl, rfl, rfl⟩ | ⟨t, h, rfl⟩
  · have hx := hx.rp rfl
    have hy := hy.rp rfl
    cases hx; cases hy
    exact .inl ⟨_, _, rfl, rfl, k _ F H (Grow.refl env.fh) env.st (.inl (.bl _))⟩
  · obtain ⟨p, q, h1, h2, h3, h4, rfl⟩ := dEqB_some h
    exact .inr ⟨p, q, Rp.dp env.fh _ (hx.rp (toPy_dat h1)) h1, Rp.dp env.fh _ (hy.rp (toPy_dat h2)) h2, h3, h4, k _ F H (Grow.refl env.fh) env.st (.inl (.bl _))⟩

/-! ### builtins -/
theorem opN_flat1 {r : List V → Hp → VK → Prop} {f : D → Option D} (h : ∀ (H0 : Hp) (ps : Option Addr) (F H : Hp) (σ : L2.St) (ρ : DE) (S : List D) (x : V) (d z : D) (Q : VK),
    En K mg H0 ps F H σ ρ S → VR K mg ps σ ρ F x d → f d = some z → (∀ v F' H', Grow ps F H F' H' → StR K mg ps F' H' S → VR K mg ps σ ρ F' v z → Q v H') → r [x] H Q) : OpN K mg r (f1 f) := by
  intro H0 ps F H σ ρ S xs ds z Q env hx hf k
  unfold f1 at hf
  split at hf
  · rename_i d
    cases hx with
    | cons a r => cases r; exact h H0 ps F H σ ρ S _ d z Q env a hf k
  · cases hf
theorem s_len : OpN K mg (fun xs H Q => ∃ x n, xs = [x] ∧ LenV K x H n ∧ Q (.int n) H) (f1 dLen) := opN_flat1 fun H0 ps F H σ ρ S x d z Q env hx hf k => by
  have seq : ∀ xs, items d = some xs → z = .int xs.length → ∃ x' n, [x] = [x'] ∧ LenV K x' H n ∧ Q (.int n) H := by
    intro xs h1 h2
    subst h2
    obtain ⟨p, vs, rfl, hq, r⟩ := env.items hx h1
    refine ⟨_, vs.length, rfl, ?_, by rw [r.length]; exact k _ F H (Grow.refl env.fh) env.st (.inl (.int _))⟩
    rcases hq with hq | hq
    · exact .inl ⟨vs, hq, rfl⟩
    · exact .inr ⟨vs, hq, rfl⟩
  unfold dLen at hf
  split at hf
  · split at hf
    · rename_i s hl
      cases hf
      have hx := hx.rp rfl
      cases hx
      exact ⟨_, _, rfl, ⟨sz_of hl, rfl⟩, k _ F H (Grow.refl env.fh) env.st (.inl (.int _))⟩
    · cases hf
  · cases q : items d with
    | none => rw [q] at hf; cases hf
    | some xs => rw [q] at hf; cases hf; exact seq xs q rfl
theorem s_abs : OpN K mg (fun xs H Q => ∃ i, xs = [V.int i] ∧ Q (.int (if i < 0 then -i else i)) H) (f1 dAbs) := opN_flat1 fun H0 ps F H σ ρ S x d z Q env hx hf k => by
  unfold dAbs at hf
  split at hf
  · cases hf
    have hx := hx.rp rfl
    cases hx
    exact ⟨_, rfl, k _ F H (Grow.refl env.fh) env.st (.inl (.int _))⟩
  · cases hf
theorem s_int : OpN K mg (fun xs H Q => (∃ i, xs = [V.int i] ∧ Q (.int i) H) ∨ ∃ k, xs = [V.bl k] ∧ Q (.int (if k then 1 else 0)) H) (f1 dInt) := opN_flat1 fun H0 ps F H σ ρ S x d z Q env hx hf k => by
  unfold dInt at hf
  split at hf
  · cases hf
    have hx := hx.rp rfl
    cases hx
    exact .inl ⟨_, rfl, k _ F H (Grow.refl env.fh) env.st (.inl (.int _))⟩
  · cases hf
    have hx := hx.rp rfl
    cases hx
    exact .inr ⟨_, rfl, k _ F H (Grow.refl env.fh) env.st (.inl (.int _))⟩
  · cases hf
theorem s_tuple : OpN K mg (fun xs H Q => ∃ p ys, xs = [V.ref p] ∧ ((SqL K H p ys ∧ ∀ l, H l = none → Q (.ref l) (upd H l (.tup ys))) ∨ (SqT K H p ys ∧ Q (.ref p) H))) (f1 dTuple) := opN_flat1 fun H0 ps F H σ ρ S x d z Q env hx hf k => by
  unfold dTuple at hf
  split at hf
  · cases hf
    have hx := hx.rp rfl
    cases hx with
    | tup q r => exact ⟨_, _, rfl, .inr ⟨ex_t env.fh q, k _ F H (Grow.refl env.fh) env.st (.inl (.tup q r))⟩⟩
  · rename_i hnt
    cases q : items d with
    | none => rw [q] at hf; cases hf
    | some xs =>
      rw [q] at hf; cases hf
      obtain ⟨p, vs, rfl, hq, r⟩ := env.items hx q
      rcases hq with hq | hq
      · exact ⟨p, vs, rfl, .inl ⟨hq, fun l hl => k _ _ _ (Grow.new env.fh hl) (env.st.new env.fh hl) (.inl (.tup (st_of upd_same) (r.mono (Ex.new (fresh_back env.fh hl)))))⟩⟩
      · cases d <;> first | (cases q; done) | skip
        all_goals cases q
        · have hx := hx.rp rfl
          cases hx with
          | lst q2 r2 =>
            exact ⟨p, _, rfl, .inl ⟨sq_of (env.fh _ _ q2), fun l hl => k _ _ _ (Grow.new env.fh hl) (env.st.new env.fh hl) (.inl (.tup (st_of upd_same) (r2.mono (Ex.new (fresh_back env.fh hl)))))⟩⟩
        · exact absurd rfl (hnt _)
        · have hx := hx.rp rfl
          cases hx with
          | scr q2 r2 =>
            exact ⟨p, _, rfl, .inl ⟨ex_l env.fh q2, fun l hl => k _ _ _ (Grow.new env.fh hl) (env.st.new env.fh hl) (.inl (.tup (st_of upd_same) (r2.mono (Ex.new (fresh_back env.fh hl)))))⟩⟩
        · rcases hx with hx | ⟨i, ys, e, h1, h2⟩ | ⟨e, _⟩
          · cases hx
          · cases e
            obtain ⟨w, h3, h4⟩ := env.sl i _ h1
            rw [h2] at h3; cases h3
            rcases h4 with h4 | ⟨zs, e, m⟩ | ⟨e, _⟩
            · cases h4
            · cases e
              obtain ⟨p', vs', e, _, m2, m3, _⟩ := m
              cases e
              exact ⟨p, _, rfl, .inl ⟨sq_of m2, fun l hl => k _ _ _ (Grow.new env.fh hl) (env.st.new env.fh hl) (.inl (.tup (st_of upd_same) (m3.mono (Ex.new (fresh_back env.fh hl)))))⟩⟩
            · cases e
          · cases e
theorem s_sum : OpN K mg (rSum K) (f1 dSum) := opN_flat1 fun H0 ps F H σ ρ S x d z Q env hx hf k => by
  unfold dSum at hf
  split at hf
  · rename_i xs
    cases q : intsOf xs with
    | none => rw [q] at hf; cases hf
    | some is =>
      rw [q] at hf; cases hf
      have hx := hx.rp rfl
      cases hx with
      | lst q2 r2 =>
        have e := r2.ints q
        subst e
        exact ⟨_, is, rfl, sq_of (env.fh _ _ q2), k _ F H (Grow.refl env.fh) env.st (.inl (.int _))⟩
  · cases hf
theorem s_all : OpN K mg (rAll K) (f1 dAll) := opN_flat1 fun H0 ps F H σ ρ S x d z Q env hx hf k => by
  unfold dAll at hf
  split at hf
  · rename_i xs
    cases q : boolsOf xs with
    | none => rw [q] at hf; cases hf
    | some is =>
      rw [q] at hf; cases hf
      have hx := hx.rp rfl
      cases hx with
      | lst q2 r2 =>
        have e := r2.bools q
        subst e
        exact ⟨_, is, rfl, sq_of (env.fh _ _ q2), k _ F H (Grow.refl env.fh) env.st (.inl (.bl _))⟩
  · cases hf
theorem s_any : OpN K mg (rAny K) (f1 dAny) := opN_flat1 fun H0 ps F H σ ρ S x d z Q env hx hf k => by
  unfold dAny at hf
  split at hf
  · rename_i xs
    cases q : boolsOf xs with
    | none => rw [q] at hf; cases hf
    | some is =>
      rw [q] at hf; cases hf
      have hx := hx.rp rfl
      cases hx with
      | lst q2 r2 =>
        have e := r2.bools q
        subst e
        exact ⟨_, is, rfl, sq_of (env.fh _ _ q2), k _ F H (Grow.refl env.fh) env.st (.inl (.bl _))⟩
  · cases hf
theorem kitB_of : ∀ a ∈ ["NoneType", "int", "bool", "str", "list", "tuple"], ∀ b ∈ kinds, kitB a b = some (isT a b) := by decide +kernel
theorem sqT_ty {H : Hp} {a : Addr} {vs : List V} (h : SqT K H a vs) : TyX K H (.ref a) (.type "tuple") := by
  rcases h with (h | ⟨o, h⟩) | ⟨o, its, n, h, c, _⟩
  · exact .base (.tup h)
  · exact .fTuple h
  · exact .kTuple h c
/-- the type of a value at hand -/
theorem En.tyx {H0 : Hp} {ps : Option Addr} {F H : Hp} {σ : L2.St} {ρ : DE} {S : List D} {x : V} {d : D} {t : String} (env : En K mg H0 ps F H σ ρ S) (hx : VR K mg ps σ ρ F x d) (h : tyName d = some t) : TyX K H x (.type t) ∧ t ∈ ["NoneType", "int", "bool", "str", "list", "tuple"] := by
  cases d <;> first | (cases h; done) | skip
  all_goals cases h
  · have := hx.rp rfl; cases this; exact ⟨.base .non, by decide⟩
  · have := hx.rp rfl; cases this; exact ⟨.base (.bl _), by decide⟩
  · have := hx.rp rfl; cases this; exact ⟨.base (.int _), by decide⟩
  · have := hx.rp rfl; cases this; exact ⟨.base (.str _), by decide⟩
  · have := hx.rp rfl
    cases this with
    | lst q r => exact ⟨.base (.lst (env.fh _ _ q)), by decide⟩
  · have := hx.rp rfl
    cases this with
    | tup q r => exact ⟨sqT_ty (ex_t env.fh q), by decide⟩
  · rcases hx with hx | ⟨i, ys, e, h1, h2⟩ | ⟨e, _⟩
    · cases hx
    · cases e
      obtain ⟨w, h3, h4⟩ := env.sl i _ h1
      rw [h2] at h3; cases h3
      rcases h4 with h4 | ⟨zs, e, m⟩ | ⟨e, _⟩
      · cases h4
      · cases e
        obtain ⟨p', vs', e, _, m2, _⟩ := m
        cases e
        exact ⟨.base (.lst m2), by decide⟩
      · cases e
    · cases e
theorem s_isi : OpN K mg (rIsi K) (f2 dIsi) := by
  intro H0 ps F H σ ρ S xs ds z Q env hx hf k
  unfold f2 at hf
  split at hf
  · rename_i d e
    cases hx with
    | cons a r =>
      cases r with
      | cons b r =>
        cases r
        unfold dIsi at hf
        split at hf
        · rename_i n
          split at hf
          · rename_i hn
            cases q : tyName d with
            | none => rw [q] at hf; cases hf
            | some t =>
              rw [q] at hf; cases hf
              have hb := b.rp rfl
              cases hb
              obtain ⟨h1, h2⟩ := env.tyx a q
              exact ⟨_, _, _, _, _, rfl, .ty n, h1, kit_ty (kitB_of t h2 n (List.contains_iff_mem.mp hn)), k _ F H (Grow.refl env.fh) env.st (.inl (.bl _))⟩
          · cases hf
        · cases hf
  · cases hf
end
end DL

namespace DL
open PySem PySem.Spec PyProof.Rows L2 Evl
section
variable {X : Cx} {mg : Str → Option Value} {E : XK} {a b e c : Expr} {es : List Expr} {φ ψ : DE → M D} {τ υ : DE → M Bool} {pos : Pos}
/-! ### tests -/
theorem t_val (h : PE X e (tD X.K mg E φ)) (he : ∀ whole, isTrue e X.env whole = (do let v ← whole; standAt e.pos; holding [v] (truthy v)) := by intro _; rfl) : PT X e (tDT X.K mg E (tV φ)) := pt_imp (pt_val h he) fun σ H Q => by
  rintro ⟨H0, ps, F, ρ, S, env, h⟩
  refine ⟨H0, ps, F, ρ, S, env, (Ps.bnd env.st h).imp fun x S1 F1 H1 g1 st1 h1 v hv => ?_⟩
  obtain ⟨z, ez, k⟩ := h1.opt
  cases x <;> first | (cases ez; done) | skip
  cases ez
  have hv := hv.rp rfl
  cases hv
  exact ⟨_, rfl, k F1 H1 (Grow.refl g1.fh) st1⟩
theorem t_tru (h : PE X e (tD X.K mg E φ)) (he : ∀ whole, isTrue e X.env whole = (do let v ← whole; standAt e.pos; holding [v] (truthy v)) := by intro _; rfl) : PT X e (tDT X.K mg E (tT φ)) := pt_imp (pt_truth h he) fun σ H Q => by
  rintro ⟨H0, ps, F, ρ, S, env, h⟩
  refine ⟨H0, ps, F, ρ, S, env, (Ps.bnd env.st h).imp fun x S1 F1 H1 g1 st1 h1 v hv => ?_⟩
  obtain ⟨z, ez, k⟩ := h1.opt
  have k := k F1 H1 (Grow.refl g1.fh) st1
  cases x <;> first | (cases ez; done) | skip
  all_goals (have hv := hv.rp rfl; cases hv)
  · cases ez; exact ⟨_, rfl, k⟩
  · cases ez; exact ⟨_, rfl, k⟩
  · cases ez; exact ⟨_, rfl, k⟩
  · unfold dTru at ez
    simp only at ez
    split at ez
    · rename_i hl
      cases ez; exact ⟨_, ⟨sz_of hl, rfl⟩, k⟩
    · cases ez
  · rename_i q r
    cases ez
    refine ⟨_, .inl ⟨_, sq_of (g1.fh _ _ q), ?_⟩, k⟩
    cases r <;> rfl
  · rename_i q r
    cases ez
    refine ⟨_, .inr (.inl ⟨_, ex_t g1.fh q, ?_⟩), k⟩
    cases r <;> rfl
theorem t_cmp {op : CmpOp} {r : R2} {f : D → D → Option D} (ho : OpR X (compareOp op) r) (hf : Op2 X.K mg r f) (ha : PE X a (tD X.K mg E φ)) (hb : PE X b (tD X.K mg E ψ)) (hm : behindInMarks op b = false) : PT X (.Compare a [op] [b] pos) (tDT X.K mg E (tV (e2 f φ ψ))) := pt_imp (pt_cmpR ho ha hb hm) fun σ H Q => by
  rintro ⟨H0, ps, F, ρ, S, env, h⟩
  have e : tDT X.K mg E (tV (e2 f φ ψ)) = tDT X.K mg E fun ρ => bnd (e2 f φ ψ ρ) fun x => opt (boolOf x) := rfl
  refine go2 (φ := φ) (ψ := ψ) (E := E) hf σ H (fun x H' => ∃ k, x = .bl k ∧ Q k H') ⟨H0, ps, F, ρ, S, env, (Ps.bnd env.st h).imp fun x S1 F1 H1 g1 st1 h1 v hv => ?_⟩
  obtain ⟨z, ez, k⟩ := h1.opt
  cases x <;> first | (cases ez; done) | skip
  cases ez
  have hv := hv.rp rfl
  cases hv
  exact ⟨_, rfl, k F1 H1 (Grow.refl g1.fh) st1⟩
theorem t_not (h : PT X a (tDT X.K mg E τ)) : PT X (.UnaryOp .Not a pos) (tDT X.K mg E (tNo τ)) := pt_imp (pt_not h) fun σ H Q => by
  rintro ⟨H0, ps, F, ρ, S, env, h⟩
  exact ⟨H0, ps, F, ρ, S, env, (Ps.bnd env.st h).imp fun x S1 F1 H1 g1 st1 h1 => h1.ret F1 H1 (Grow.refl g1.fh) st1⟩
theorem w_and {rest : List Expr} (ha : PT X a (tDT X.K mg E τ)) (hb : PW X (.BoolOp .And (b :: rest) pos) (tDT X.K mg E υ)) : PW X (.BoolOp .And (a :: b :: rest) pos) (tDT X.K mg E (tAn τ υ)) := pw_imp (pw_and ha hb) fun σ H Q => by
  rintro ⟨H0, ps, F, ρ, S, env, h⟩
  refine ⟨H0, ps, F, ρ, S, env, (Ps.bnd env.st h).imp fun x S1 F1 H1 g1 st1 h1 => ?_⟩
  cases x with
  | true => exact ⟨H0, ps, F1, ρ, S1, env.grow g1 st1, h1⟩
  | false => exact h1.ret F1 H1 (Grow.refl g1.fh) st1
theorem w_or {rest : List Expr} (ha : PT X a (tDT X.K mg E τ)) (hb : PW X (.BoolOp .Or (b :: rest) pos) (tDT X.K mg E υ)) : PW X (.BoolOp .Or (a :: b :: rest) pos) (tDT X.K mg E (tOr' τ υ)) := pw_imp (pw_or ha hb) fun σ H Q => by
  rintro ⟨H0, ps, F, ρ, S, env, h⟩
  refine ⟨H0, ps, F, ρ, S, env, (Ps.bnd env.st h).imp fun x S1 F1 H1 g1 st1 h1 => ?_⟩
  cases x with
  | false => exact ⟨H0, ps, F1, ρ, S1, env.grow g1 st1, h1⟩
  | true => exact h1.ret F1 H1 (Grow.refl g1.fh) st1
theorem w_and1 (ha : PT X a (tDT X.K mg E τ)) : PW X (.BoolOp .And [a] pos) (tDT X.K mg E τ) := pw_and1 ha
theorem w_or1 (ha : PT X a (tDT X.K mg E τ)) : PW X (.BoolOp .Or [a] pos) (tDT X.K mg E τ) := pw_or1 ha
/-- as values -/
theorem d_one {op} (h : PE X a (tD X.K mg E φ)) : PE X (.BoolOp op [a] pos) (tD X.K mg E φ) := pe_one h
theorem d_and {rest : List Expr} (ha : PE X a (tD X.K mg E φ)) (hb : PE X (.BoolOp .And (b :: rest) pos) (tD X.K mg E ψ)) : PE X (.BoolOp .And (a :: b :: rest) pos) (tD X.K mg E (eAn φ ψ)) := pe_imp (pe_and ha hb) fun σ H Q => by
  rintro ⟨H0, ps, F, ρ, S, env, h⟩
  refine ⟨H0, ps, F, ρ, S, env, (Ps.bnd env.st h).imp fun x S1 F1 H1 g1 st1 h1 v hv => ?_⟩
  split at h1
  · have hv := hv.rp rfl
    cases hv
    exact ⟨true, rfl, H0, ps, F1, ρ, S1, env.grow g1 st1, h1⟩
  · have hv := hv.rp rfl
    cases hv
    exact ⟨false, rfl, h1.ret F1 H1 (Grow.refl g1.fh) st1 _ (.inl (.bl _))⟩
  · exact h1.elim
theorem d_or {rest : List Expr} (ha : PE X a (tD X.K mg E φ)) (hb : PE X (.BoolOp .Or (b :: rest) pos) (tD X.K mg E ψ)) : PE X (.BoolOp .Or (a :: b :: rest) pos) (tD X.K mg E (eOr φ ψ)) := pe_imp (pe_or ha hb) fun σ H Q => by
  rintro ⟨H0, ps, F, ρ, S, env, h⟩
  refine ⟨H0, ps, F, ρ, S, env, (Ps.bnd env.st h).imp fun x S1 F1 H1 g1 st1 h1 v hv => ?_⟩
  split at h1
  · have hv := hv.rp rfl
    cases hv
    exact ⟨true, rfl, h1.ret F1 H1 (Grow.refl g1.fh) st1 _ (.inl (.bl _))⟩
  · have hv := hv.rp rfl
    cases hv
    exact ⟨false, rfl, H0, ps, F1, ρ, S1, env.grow g1 st1, h1⟩
  · exact h1.elim
theorem d_not (h : PE X a (tD X.K mg E φ)) : PE X (.UnaryOp .Not a pos) (tD X.K mg E (eNo φ)) := pe_imp (pe_not h) fun σ H Q => by
  rintro ⟨H0, ps, F, ρ, S, env, h⟩
  refine ⟨H0, ps, F, ρ, S, env, (Ps.bnd env.st h).imp fun x S1 F1 H1 g1 st1 h1 v hv => ?_⟩
  split at h1
  · have hv := hv.rp rfl
    cases hv
    exact ⟨_, rfl, h1.ret F1 H1 (Grow.refl g1.fh) st1 _ (.inl (.bl _))⟩
  · exact h1.elim
theorem d_ifx {χ : DE → M D} (hc : PT X c (tDT X.K mg E τ)) (ha : PE X a (tD X.K mg E φ)) (hb : PE X b (tD X.K mg E ψ)) : PE X (.IfExp c a b pos) (tD X.K mg E (eIf τ φ ψ)) := pe_imp (pe_ifExp hc ha hb) fun σ H Q => by
  rintro ⟨H0, ps, F, ρ, S, env, h⟩
  refine ⟨H0, ps, F, ρ, S, env, (Ps.bnd env.st h).imp fun x S1 F1 H1 g1 st1 h1 => ?_⟩
  cases x with
  | true => exact ⟨H0, ps, F1, ρ, S1, env.grow g1 st1, h1⟩
  | false => exact ⟨H0, ps, F1, ρ, S1, env.grow g1 st1, h1⟩
/-! ### slices, new lists -/
theorem o_none : PO X none (tDO X.K mg E oN) := po_imp po_none fun σ H Q => by
  rintro ⟨H0, ps, F, ρ, S, env, h⟩
  exact h.ret F H (Grow.refl env.fh) env.st
theorem o_some (h : PE X e (tD X.K mg E φ)) : PO X (some e) (tDO X.K mg E (oS φ)) := po_imp (po_some h) fun σ H Q => by
  rintro ⟨H0, ps, F, ρ, S, env, h⟩
  refine ⟨H0, ps, F, ρ, S, env, (Ps.bnd env.st h).imp fun x S1 F1 H1 g1 st1 h1 v hv => ?_⟩
  split at h1
  · have hv := hv.rp rfl
    cases hv
    exact ⟨_, rfl, h1.ret F1 H1 (Grow.refl g1.fh) st1⟩
  · exact h1.elim
theorem d_cut {lo hi : Option Expr} {lo1 hi1 : DE → M (Option Int)} {p2 : Pos} (he : PE X e (tD X.K mg E φ)) (hl : PO X lo (tDO X.K mg E lo1)) (hh : PO X hi (tDO X.K mg E hi1)) : PE X (.Subscript e (.Slice lo hi none p2) pos) (tD X.K mg E (eCut lo1 hi1 φ)) := pe_imp (pe_slice (sl_tupA.or sl_list) he hl hh) fun σ H Q => by
  rintro ⟨H0, ps, F, ρ, S, env, h⟩
  refine ⟨H0, ps, F, ρ, S, env, (Ps.bnd env.st h).imp fun x S1 F1 H1 g1 st1 h1 v hv => ?_⟩
  have env1 := env.grow g1 st1
  refine ⟨H0, ps, F1, ρ, S1, env1, (Ps.bnd st1 h1).imp fun l S2 F2 H2 g2 st2 h2 => ?_⟩
  have env2 := env1.grow g2 st2
  refine ⟨H0, ps, F2, ρ, S2, env2, (Ps.bnd st2 h2).imp fun u S3 F3 H3 g3 st3 h3 => ?_⟩
  obtain ⟨z, ez, k⟩ := h3.opt
  unfold dCut at ez
  split at ez
  · rename_i ws
    cases ez
    have hv := ((hv.mono g2.ff).mono g3.ff).rp rfl
    cases hv with
    | tup q r =>
      rename_i a vs
      refine .inl ⟨a, vs, rfl, ex_t g3.fh q, fun hw => ?_, fun hw p hp => ?_⟩
      · refine k F3 H3 (Grow.refl g3.fh) st3 _ (.inl ?_)
        have e1 : cutD ws l u = ws := by
          unfold cutD
          rw [← r.length, hw.1, hw.2, List.drop_zero, Nat.sub_zero, r.length, List.take_length]
        rw [e1]
        exact .tup q r
      · exact k _ _ (Grow.new g3.fh hp) (st3.new g3.fh hp) _ (.inl (.tup (st_of upd_same) ((r.cut l u).mono (Ex.new (fresh_back g3.fh hp)))))
  · cases ez
    have hv := ((hv.mono g2.ff).mono g3.ff).rp rfl
    cases hv with
    | lst q r => exact .inr ⟨_, _, rfl, sq_of (g3.fh _ _ q), fun p hp => k _ _ (Grow.new g3.fh hp) (st3.new g3.fh hp) _ (.inl (.lst upd_same ((r.cut l u).mono (Ex.new (fresh_back g3.fh hp)))))⟩
  · cases ez
    have hv := ((hv.mono g2.ff).mono g3.ff).rp rfl
    cases hv with
    | scr q r => exact .inr ⟨_, _, rfl, ex_l g3.fh q, fun p hp => k _ _ (Grow.new g3.fh hp) (st3.new g3.fh hp) _ (.inl (.lst upd_same ((r.cut l u).mono (Ex.new (fresh_back g3.fh hp)))))⟩
  · cases ez
def tTys (ns : List String) : TA := fun _ H Q => Q (ns.map V.ty) H
theorem ty_nil : PA X [] (tTys []) := pa_imp pa_nil fun σ H Q h => h
theorem ty_cons {x : Str} {n : String} {ns : List String} {p : Pos} (hg : Gl X x) (hm : X.mg x = none) (hv : bootBuiltins x = some (.type n)) (hr : PA X es (tTys ns)) (hn : x ≠ "__name__" := by decide) (hd : (x == ("__debug__" : Str)) = false := by decide)
    (hs : starEach (.Name x p :: es) X.env = (false, eval (.Name x p) X.env) :: starEach es X.env := by rfl) : PA X (.Name x p :: es) (tTys (n :: ns)) := pa_imp (pa_cons (pe_bltn (v := .ty n) hg hm hv rfl hn hd) hr hs) fun σ H Q h => h
theorem kitAny_tys {K : PySem.W.Frag} {t : String} (ht : t ∈ ["NoneType", "int", "bool", "str", "list", "tuple"]) : ∀ ns : List String, ns.all kinds.contains = true → PySem.W.kitAny K (.type t) (ns.map Value.type) = some (ns.any (isT t))
  | [], _ => kitAny_nil
  | n :: ns, h => by
    rw [List.all_cons, Bool.and_eq_true] at h
    have h1 := kit_ty (K := K) (kitB_of t ht n (List.contains_iff_mem.mp h.1))
    rw [List.any_cons]
    refine kitAny_cons h1 (fun e => ?_) (fun e => ?_)
    · rw [e, Bool.false_or]; exact kitAny_tys ht ns h.2
    · rw [e, Bool.true_or]
theorem cls_tys : ∀ ns : List String, Paired ClsV (ns.map V.ty) (ns.map Value.type)
  | [] => .nil
  | n :: ns => .cons (.ty n) (cls_tys ns)
theorem d_isis {x : Str} {p p2 : Pos} {ns : List String} {ts : List Expr} {x1} (hg : Gl X x) (hm : X.mg x = none) (hv : bootBuiltins x = some (.builtin "isinstance")) (ha : PE X e (tD X.K mg E φ)) (ht : PA X ts (tTys ns)) (hn : x ≠ "__name__" := by decide) (hdb : (x == ("__debug__" : Str)) = false := by decide)
    (hs1 : starEach [.Tuple ts x1 p2] X.env = (false, eval (.Tuple ts x1 p2) X.env) :: starEach [] X.env := by rfl)
    (he : starEach [e, .Tuple ts x1 p2] X.env = (false, eval e X.env) :: starEach [.Tuple ts x1 p2] X.env := by rfl) (hpl : (backTo pos (starEach [.Tuple ts x1 p2] X.env)).any (·.1) = false := by rfl) :
    PE X (.Call (.Name x p) [e, .Tuple ts x1 p2] [] pos) (tD X.K mg E (eIsi ns φ)) := pe_imp (pe_callB call_isiT hg hm hv (pa_cons ha (pa_cons (pe_tup ht) pa_nil hs1) he) hn hdb he hpl) fun σ H Q => by
  rintro ⟨H0, ps, F, ρ, S, env, h⟩
  refine ⟨H0, ps, F, ρ, S, env, (Ps.bnd env.st h).imp fun x S1 F1 H1 g1 st1 h1 v hv => ?_⟩
  obtain ⟨z, ez, k⟩ := h1.opt
  unfold dIsis at ez
  split at ez
  · rename_i hk
    rw [Bool.and_eq_true, decide_eq_true_eq] at hk
    cases q : tyName x with
    | none => rw [q] at ez; cases ez
    | some t =>
      rw [q] at ez; cases ez
      obtain ⟨h2, h3⟩ := (env.grow g1 st1).tyx hv q
      have hl : (ns.map V.ty).length ≤ sizeLine := by
        rw [List.length_map]
        exact sz_of (by omega)
      refine ⟨hl, fun p hp => ?_⟩
      have g2 : Grow ps F1 H1 (upd F1 p (.tup (ns.map V.ty))) (upd H1 p (.tup (ns.map V.ty))) := Grow.new g1.fh hp
      have env2 := (env.grow g1 st1).grow g2 (st1.new g1.fh hp)
      obtain ⟨h4, _⟩ := env2.tyx (hv.mono g2.ff) q
      refine ⟨v, p, ns.map V.ty, .type t, ns.map Value.type, _, rfl, upd_same, cls_tys ns, h4, kitAny_tys h3 ns hk.1, k _ _ g2 (st1.new g1.fh hp) _ (.inl (.bl _))⟩
  · cases ez
theorem l_cut {lo hi : Option Expr} {lo1 hi1 : DE → M (Option Int)} {p2 : Pos} (he : PE X e (tD X.K mg E φ)) (hl : PO X lo (tDO X.K mg E lo1)) (hh : PO X hi (tDO X.K mg E hi1)) : PE X (.Subscript e (.Slice lo hi none p2) pos) (tDL X.K mg E (lCut lo1 hi1 φ)) := pe_imp (pe_slice sl_list he hl hh) fun σ H Q => by
  rintro ⟨H0, ps, F, ρ, S, env, h⟩
  refine ⟨H0, ps, F, ρ, S, env, (Ps.bnd env.st h).imp fun x S1 F1 H1 g1 st1 h1 v hv => ?_⟩
  have env1 := env.grow g1 st1
  refine ⟨H0, ps, F1, ρ, S1, env1, (Ps.bnd st1 h1).imp fun l S2 F2 H2 g2 st2 h2 => ?_⟩
  have env2 := env1.grow g2 st2
  refine ⟨H0, ps, F2, ρ, S2, env2, (Ps.bnd st2 h2).imp fun u S3 F3 H3 g3 st3 h3 => ?_⟩
  have env3 := env2.grow g3 st3
  have hv := (hv.mono g2.ff).mono g3.ff
  split at h3
  · have hv := hv.rp rfl
    cases hv with
    | lst q r => exact ⟨_, _, rfl, sq_of (g3.fh _ _ q), fun p hp => h3.ret F3 H3 (Grow.refl g3.fh) st3 p _ hp (r.cut l u)⟩
  · have hv := hv.rp rfl
    cases hv with
    | scr q r => exact ⟨_, _, rfl, ex_l g3.fh q, fun p hp => h3.ret F3 H3 (Grow.refl g3.fh) st3 p _ hp (r.cut l u)⟩
  · rcases hv with hv | ⟨i, ys, e1, h1', h2'⟩ | ⟨e1, _⟩
    · cases hv
    · cases e1
      obtain ⟨w, h3', h4⟩ := env3.sl i _ h1'
      rw [h2'] at h3'; cases h3'
      rcases h4 with h4 | ⟨zs, e1, m⟩ | ⟨e1, _⟩
      · cases h4
      · cases e1
        obtain ⟨p', vs', rfl, _, m2, m3, _⟩ := m
        exact ⟨_, _, rfl, sq_of m2, fun p hp => h3.ret F3 H3 (Grow.refl g3.fh) st3 p _ hp (m3.cut l u)⟩
      · cases e1
    · cases e1
  · exact h3.elim
/-- list(e) -/
theorem l_of {x : Str} {p : Pos} (hg : Gl X x) (hm : X.mg x = none) (hv : bootBuiltins x = some (.type "list")) (ha : PE X e (tD X.K mg E φ)) (hn : x ≠ "__name__" := by decide) (hdb : (x == ("__debug__" : Str)) = false := by decide)
    (hs : starEach [e] X.env = (false, eval e X.env) :: starEach [] X.env := by rfl) (hpl : (backTo pos (starEach [] X.env)).any (·.1) = false := by rfl) : PE X (.Call (.Name x p) [e] [] pos) (tDL X.K mg E (lOf dList φ)) :=
  pe_imp (pe_callTy call_list_of hg hm hv (pa_cons ha pa_nil hs) hn hdb hs hpl) fun σ H Q => by
  rintro ⟨H0, ps, F, ρ, S, env, h⟩
  refine ⟨H0, ps, F, ρ, S, env, (Ps.bnd env.st h).imp fun x S1 F1 H1 g1 st1 h1 v hv => ?_⟩
  obtain ⟨xs, ez, k⟩ := h1.opt
  obtain ⟨p, vs, rfl, hq, r⟩ := (env.grow g1 st1).items hv ez
  exact ⟨p, vs, rfl, hq, fun l hl => k F1 H1 (Grow.refl g1.fh) st1 l vs hl r⟩
theorem l_rep (ha : PE X a (tD X.K mg E φ)) (hb : PE X b (tD X.K mg E ψ)) : PE X (.BinOp a .Mult b pos) (tDL X.K mg E (lRep φ ψ)) := pe_imp (pe_op op_rep ha hb) fun σ H Q => by
  rintro ⟨H0, ps, F, ρ, S, env, h⟩
  refine ⟨H0, ps, F, ρ, S, env, (Ps.bnd env.st h).imp fun x S1 F1 H1 g1 st1 h1 v hv => ?_⟩
  have env1 := env.grow g1 st1
  refine ⟨H0, ps, F1, ρ, S1, env1, (Ps.bnd st1 h1).imp fun y S2 F2 H2 g2 st2 h2 u hu => ?_⟩
  split at h2
  · split at h2
    · rename_i hc
      have hv := (hv.mono g2.ff).rp rfl
      have hu := hu.rp rfl
      cases hv with
      | lst q r =>
        cases hu
        exact ⟨_, _, _, rfl, rfl, g2.fh _ _ q, by have := hc.2.1; omega, by have := hc.1; omega, by rw [r.length]; exact sz_of hc.2.2, fun p hp => h2.ret F2 H2 (Grow.refl g2.fh) st2 p _ hp (r.flat _)⟩
    · exact h2.elim
  · exact h2.elim
theorem l_cat (ha : PE X a (tD X.K mg E φ)) (hb : PE X b (tD X.K mg E ψ)) : PE X (.BinOp a .Add b pos) (tDL X.K mg E (lCat φ ψ)) := pe_imp (pe_op op_cat ha hb) fun σ H Q => by
  rintro ⟨H0, ps, F, ρ, S, env, h⟩
  refine ⟨H0, ps, F, ρ, S, env, (Ps.bnd env.st h).imp fun x S1 F1 H1 g1 st1 h1 v hv => ?_⟩
  have env1 := env.grow g1 st1
  refine ⟨H0, ps, F1, ρ, S1, env1, (Ps.bnd st1 h1).imp fun y S2 F2 H2 g2 st2 h2 u hu => ?_⟩
  split at h2
  · split at h2
    · rename_i hc
      have hv := (hv.mono g2.ff).rp rfl
      have hu := hu.rp rfl
      cases hv with
      | lst q r =>
        cases hu with
        | lst q2 r2 =>
          exact ⟨_, _, _, _, rfl, rfl, g2.fh _ _ q, g2.fh _ _ q2, by rw [r.length, r2.length]; exact sz_of hc, fun p hp => h2.ret F2 H2 (Grow.refl g2.fh) st2 p _ hp (r.append r2)⟩
    · exact h2.elim
  · exact h2.elim
end

/-! ### what is walked -/
section
variable (K : PySem.W.Frag) (mg : Str → Option Value)
/-- the iteration J yields the items xs: they are kept, or new pairs -/
structure ItR (F0 : Hp) (J : It) (xs : List D) : Prop where
  go : ∀ (F H : Hp) (i : Nat), Ex F0 F → Ex F H → i < xs.length → J.go i H
  stop : ∀ (F H : Hp), Ex F0 F → Ex F H → J.stop xs.length H
  yld : ∀ (F H H' : Hp) (i : Nat) (x : V) (d : D), Ex F0 F → Ex F H → xs[i]? = some d → J.yld i H x H' → ∃ F', ((F' = F ∧ H' = H) ∨ ∃ T o, H T = none ∧ F' = upd F T o ∧ H' = upd H T o) ∧ Rp K mg F' x d
def tDI (E : XK) (φ : DE → M (List D)) : TI := fun σ H R => ∃ H0 ps F ρ S, En K mg H0 ps F H σ ρ S ∧ Ps K mg E ps F H (φ ρ S) fun xs _ F' H' => ∀ J, ItR K mg F' J xs → R J H'
/-- a target's reading; sl: its slots -/
def tDG (sl : List Nat) (γ : D → DE → Option DE) : TG := fun v σ H Q => ∃ H0 ps F ρ S d ρ', En K mg H0 ps F H σ ρ S ∧ Rp K mg F v d ∧ γ d ρ = some ρ' ∧
  ∀ σ', σ'.length = σ.length → (∀ i, i ∉ sl → σ'[i]? = σ[i]?) → En K mg H0 ps F H σ' ρ' S → Q σ' H
end
section
variable {K : PySem.W.Frag} {mg : Str → Option Value} {X : Cx} {E : XK} {tg e a b : Expr} {φ ψ : DE → M D} {pos p : Pos} {F H : Hp}
theorem itR_list {l : Addr} {vs : List V} {xs : List D} (h : SqL K F l vs) (r : Rps K mg F vs xs) : ItR K mg F (Itl K l) xs where
  go F1 H1 i e1 e2 hi := by
    have hi2 : i < vs.length := by rw [r.length]; exact hi
    exact ⟨vs, vs[i], ex_l e2 (ex_l e1 h), List.getElem?_eq_getElem hi2⟩
  stop F1 H1 e1 e2 := ⟨vs, ex_l e2 (ex_l e1 h), by rw [r.length]; exact Nat.le_refl _⟩
  yld F1 H1 H' i x d e1 e2 hd hy := by
    obtain ⟨rfl, hx⟩ := hy
    obtain ⟨v, hv, rv⟩ := r.get hd
    have := hx vs (ex_l e2 (ex_l e1 h))
    rw [hv] at this; cases this
    exact ⟨F1, .inl ⟨rfl, rfl⟩, rv.mono e1⟩
theorem itR_tup {l : Addr} {vs : List V} {xs : List D} (h : SqT K F l vs) (r : Rps K mg F vs xs) : ItR K mg F (Itt K l) xs where
  go F1 H1 i e1 e2 hi := by
    have hi2 : i < vs.length := by rw [r.length]; exact hi
    exact ⟨vs, vs[i], ex_t e2 (ex_t e1 h), List.getElem?_eq_getElem hi2⟩
  stop F1 H1 e1 e2 := ⟨vs, ex_t e2 (ex_t e1 h), by rw [r.length]; exact Nat.le_refl _⟩
  yld F1 H1 H' i x d e1 e2 hd hy := by
    obtain ⟨rfl, hx⟩ := hy
    obtain ⟨v, hv, rv⟩ := r.get hd
    have := hx vs (ex_t e2 (ex_t e1 h))
    rw [hv] at this; cases this
    exact ⟨F1, .inl ⟨rfl, rfl⟩, rv.mono e1⟩
theorem itR_rng {lo hi : Int} : ItR K mg F (Itr lo (hi - lo).toNat) (rngD lo hi) where
  go F1 H1 i _ _ h := by unfold rngD at h; rw [List.length_map, List.length_range] at h; exact h
  stop F1 H1 _ _ := by unfold rngD; rw [List.length_map, List.length_range]; exact Nat.le_refl _
  yld F1 H1 H' i x d _ _ hd hy := by
    obtain ⟨rfl, rfl⟩ := hy
    unfold rngD at hd
    rw [List.getElem?_map] at hd
    cases hr : (List.range (hi - lo).toNat)[i]? with
    | none => rw [hr] at hd; cases hd
    | some j =>
      rw [hr] at hd; cases hd
      have hj : j = i := by
        have := List.getElem?_eq_some_iff.mp hr
        obtain ⟨h1, h2⟩ := this
        rw [List.getElem_range] at h2; exact h2.symm
      subst hj
      exact ⟨F1, .inl ⟨rfl, rfl⟩, .int _⟩
theorem pi_imp {X : Cx} {tg e : Expr} {t t' : TI} (h : PI X tg e t) (k : ∀ σ H Q, t' σ H Q → t σ H Q) : PI X tg e t' := ⟨fun pins s σ H Q I q => h.run pins s σ H Q I (k σ H Q q)⟩
theorem pg_imp {X : Cx} {e : Expr} {t t' : TG} (h : PG X e t) (k : ∀ v σ H Q, t' v σ H Q → t v σ H Q) : PG X e t' := ⟨fun pins s σ H v u Q I r q => h.run pins s σ H v u Q I r (k v σ H Q q)⟩
theorem pi_or {X : Cx} {tg e : Expr} {t t' : TI} (h : PI X tg e t) (h' : PI X tg e t') : PI X tg e (fun σ H R => t σ H R ∨ t' σ H R) := ⟨fun pins s σ H Q I q => q.elim (h.run pins s σ H Q I) (h'.run pins s σ H Q I)⟩
theorem i_seq (h : PE X e (tD X.K mg E φ)) : PI X tg e (tDI X.K mg E (iSq φ)) := pi_imp (pi_or (pi_list h) (pi_tup h)) fun σ H R => by
  rintro ⟨H0, ps, F, ρ, S, env, h⟩
  have h1 := Ps.bnd env.st h
  have L : (∀ xs S1, φ ρ S ≠ .ok (.tup xs) S1) → iList X.K (tD X.K mg E φ) σ H R := fun hx => by
    refine ⟨H0, ps, F, ρ, S, env, ?_⟩
    cases hm : φ ρ S with
    | bad => rw [hm] at h1; exact h1
    | exc c fs S' => rw [hm] at h1; exact h1
    | ok x S1 =>
      rw [hm] at h1
      intro F1 H1 g1 st1 v hv
      have h2 := h1 F1 H1 g1 st1
      cases x <;> first | exact h2.elim | skip
      · have hv := hv.rp rfl
        cases hv with
        | lst q r => exact ⟨_, rfl, ⟨_, sq_of (g1.fh _ _ q)⟩, h2.ret F1 H1 (Grow.refl g1.fh) st1 _ (itR_list (sq_of q) r)⟩
      · exact absurd hm (hx _ _)
      · have hv := hv.rp rfl
        cases hv with
        | scr q r => exact ⟨_, rfl, ⟨_, ex_l g1.fh q⟩, h2.ret F1 H1 (Grow.refl g1.fh) st1 _ (itR_list q r)⟩
  have T : (∀ (x : D) S1, φ ρ S = .ok x S1 → ∃ xs, x = .tup xs) → iTup X.K (tD X.K mg E φ) σ H R := fun hx => by
    refine ⟨H0, ps, F, ρ, S, env, ?_⟩
    cases hm : φ ρ S with
    | bad => rw [hm] at h1; exact h1
    | exc c fs S' => rw [hm] at h1; exact h1
    | ok x S1 =>
      rw [hm] at h1
      intro F1 H1 g1 st1 v hv
      have h2 := h1 F1 H1 g1 st1
      obtain ⟨xs, rfl⟩ := hx x S1 hm
      have hv := hv.rp rfl
      cases hv with
      | tup q r => exact ⟨_, rfl, ⟨_, ex_t g1.fh q⟩, h2.ret F1 H1 (Grow.refl g1.fh) st1 _ (itR_tup q r)⟩
  by_cases hx : ∃ xs S1, φ ρ S = .ok (.tup xs) S1
  · obtain ⟨xs, S1, hx⟩ := hx
    exact .inr (T fun x S2 e => by rw [hx] at e; cases e; exact ⟨_, rfl⟩)
  · exact .inl (L fun xs S1 e => hx ⟨xs, S1, e⟩)
theorem i_r1 (hg : Gl X "range") (hm : X.mg "range" = none) (ha : PE X a (tD X.K mg E φ)) (hs : starEach [a] X.env = [(false, eval a X.env)] := by rfl) : PI X tg (.Call (.Name "range" p) [a] [] pos) (tDI X.K mg E (iR1 φ)) := pi_imp (pi_range1 hg hm (pa_cons ha pa_nil hs) hs) fun σ H R => by
  rintro ⟨H0, ps, F, ρ, S, env, h⟩
  refine ⟨H0, ps, F, ρ, S, env, (Ps.bnd env.st h).imp fun x S1 F1 H1 g1 st1 h1 v hv => ?_⟩
  split at h1
  · split at h1
    · rename_i n hc
      have hv := hv.rp rfl
      cases hv
      unfold smallI at hc
      rw [Bool.and_eq_true, decide_eq_true_eq, decide_eq_true_eq] at hc
      refine ⟨n, rfl, by omega, by omega, h1.ret F1 H1 (Grow.refl g1.fh) st1 _ ?_⟩
      have e := itR_rng (K := X.K) (mg := mg) (F := F1) (lo := 0) (hi := n)
      rw [Int.sub_zero] at e; exact e
    · exact h1.elim
  · exact h1.elim
theorem i_r2 (hg : Gl X "range") (hm : X.mg "range" = none) (ha : PE X a (tD X.K mg E φ)) (hb : PE X b (tD X.K mg E ψ)) (hs : starEach [a, b] X.env = [(false, eval a X.env), (false, eval b X.env)] := by rfl) (hs2 : starEach [b] X.env = [(false, eval b X.env)] := by rfl) : PI X tg (.Call (.Name "range" p) [a, b] [] pos) (tDI X.K mg E (iR2 φ ψ)) := pi_imp (pi_range2 hg hm (pa_cons ha (pa_cons hb pa_nil hs2) (by rw [hs, hs2])) hs hs2) fun σ H R => by
  rintro ⟨H0, ps, F, ρ, S, env, h⟩
  refine ⟨H0, ps, F, ρ, S, env, (Ps.bnd env.st h).imp fun x S1 F1 H1 g1 st1 h1 v hv => ?_⟩
  refine ⟨H0, ps, F1, ρ, S1, env.grow g1 st1, (Ps.bnd st1 h1).imp fun y S2 F2 H2 g2 st2 h2 u hu => ?_⟩
  split at h2
  · split at h2
    · rename_i m n hc
      have hv := hv.rp rfl
      have hu := hu.rp rfl
      cases hv; cases hu
      unfold smallI at hc
      simp only [Bool.and_eq_true, decide_eq_true_eq] at hc
      exact ⟨m, n, rfl, ⟨by omega, by omega, by omega, by omega⟩, h2.ret F2 H2 (Grow.refl g2.fh) st2 _ itR_rng⟩
    · exact h2.elim
  · exact h2.elim
/-! ### targets -/
theorem En.set {H0 : Hp} {ps : Option Addr} {σ : L2.St} {ρ : DE} {S : List D} {v : V} {d : D} (env : En K mg H0 ps F H σ ρ S) (r : Rp K mg F v d) (i : Nat) : En K mg H0 ps F H (σ.set i (some v)) (ρ.set i (some d)) S where
  fh := env.fh
  st := env.st
  len := by rw [List.length_set, List.length_set]; exact env.len
  sl j e h := by
    by_cases z : i = j
    · subst z
      have hl : i < ρ.length := by
        have := (List.getElem?_eq_some_iff.mp h).1
        rw [List.length_set] at this; exact this
      rw [List.getElem?_set_self hl] at h; cases h
      exact ⟨v, List.getElem?_set_self (by rw [env.len]; exact hl), .inl r⟩
    · rw [List.getElem?_set_ne z] at h
      obtain ⟨w, h1, h2⟩ := env.sl j e h
      exact ⟨w, by rw [List.getElem?_set_ne z]; exact h1, h2⟩
  mne j k xs ys w hjk h1 h2 h3 := by
    have hd := r.dat
    have nj : i ≠ j := fun z => by
      subst z
      have hl : i < ρ.length := by
        have := (List.getElem?_eq_some_iff.mp h1).1
        rw [List.length_set] at this; exact this
      rw [List.getElem?_set_self hl] at h1; cases h1; cases hd
    have nk : i ≠ k := fun z => by
      subst z
      have hl : i < ρ.length := by
        have := (List.getElem?_eq_some_iff.mp h3).1
        rw [List.length_set] at this; exact this
      rw [List.getElem?_set_self hl] at h3; cases h3; cases hd
    rw [List.getElem?_set_ne nj] at h1 h2
    rw [List.getElem?_set_ne nk] at h3 ⊢
    exact env.mne j k xs ys w hjk h1 h2 h3
theorem g_name {i : Nat} {x : Str} (hN : X.N.Nodup) (hi : X.N[i]? = some x) (hx : Loc X.env.scope x) (hf : X.fn x = true ∨ X.env.scope.names.lookup x = some .local := by first | exact .inl rfl | exact .inr rfl | assumption) : PG X (.Name x pos) (tDG X.K mg [i] (gN i)) := pg_imp (pg_name hN hi hx hf) fun v σ H Q => by
  rintro ⟨H0, ps, F, ρ, S, d, ρ', env, r, e, k⟩
  unfold gN at e
  split at e
  · cases e
    refine k _ (by rw [List.length_set]) (fun j hj => ?_) (env.set r i)
    rw [List.getElem?_set_ne (fun z => hj (by rw [z]; exact List.mem_singleton.mpr rfl))]
  · cases e
def tDGs (K : PySem.W.Frag) (mg : Str → Option Value) (sl : List Nat) : TGs := fun vs σ H Q => ∃ H0 ps F ρ S ds ρ', En K mg H0 ps F H σ ρ S ∧ Rps K mg F vs ds ∧ setAll sl ds ρ = some ρ' ∧
  ∀ σ', σ'.length = σ.length → (∀ i, i ∉ sl → σ'[i]? = σ[i]?) → En K mg H0 ps F H σ' ρ' S → Q σ' H
theorem pgs_imp {X : Cx} {e : List Expr} {t t' : TGs} (h : PGs X e t) (k : ∀ v σ H Q, t' v σ H Q → t v σ H Q) : PGs X e t' := ⟨fun pins s σ H v u Q I r q => h.run pins s σ H v u Q I r (k v σ H Q q)⟩
theorem g_nil : PGs X [] (tDGs X.K mg []) := pgs_imp pgs_nil fun vs σ H Q => by
  rintro ⟨H0, ps, F, ρ, S, ds, ρ', env, r, e, k⟩
  cases r with
  | nil => cases e; exact ⟨rfl, k σ rfl (fun _ _ => rfl) env⟩
  | cons _ _ => cases e
theorem g_cons {i : Nat} {x : Str} {ts : List Expr} {sl : List Nat} (hN : X.N.Nodup) (hi : X.N[i]? = some x) (hx : Loc X.env.scope x) (hr : PGs X ts (tDGs X.K mg sl))
    (hs : (assignEach (.Name x pos :: ts) X.env).map (·.2) = assign (.Name x pos) X.env :: (assignEach ts X.env).map (·.2) := by rfl) (hf : X.fn x = true ∨ X.env.scope.names.lookup x = some .local := by first | exact .inl rfl | exact .inr rfl | assumption) : PGs X (.Name x pos :: ts) (tDGs X.K mg (i :: sl)) := pgs_imp (pgs_cons (pg_name hN hi hx hf) hr hs) fun vs σ H Q => by
  rintro ⟨H0, ps, F, ρ, S, ds, ρ', env, r, e, k⟩
  cases r with
  | nil => cases e
  | @cons v vs d ds rv r =>
    unfold setAll at e
    split at e
    · refine ⟨v, vs, rfl, H0, ps, F, _, S, ds, ρ', env.set rv i, r, e, fun σ' hl hk env' => k σ' (by rw [hl, List.length_set]) (fun j hj => ?_) env'⟩
      rw [hk j (fun z => hj (List.mem_cons_of_mem _ z)), List.getElem?_set_ne (fun z => hj (by rw [z]; exact List.mem_cons_self))]
    · cases e
theorem pg_or {X : Cx} {e : Expr} {t t' : TG} (h : PG X e t) (h' : PG X e t') : PG X e (fun v σ H Q => t v σ H Q ∨ t' v σ H Q) := ⟨fun pins s σ H v u Q I r q => q.elim (h.run pins s σ H v u Q I r) (h'.run pins s σ H v u Q I r)⟩
theorem setAll_len : ∀ (is : List Nat) (es : List D) (ρ ρ' : DE), setAll is es ρ = some ρ' → es.length = is.length := by
  intro is
  induction is with
  | nil => intro es ρ ρ' h; cases es with
    | nil => rfl
    | cons _ _ => cases h
  | cons i is ih => intro es ρ ρ' h; cases es with
    | nil => cases h
    | cons y ys =>
      unfold setAll at h
      split at h
      · rw [List.length_cons, List.length_cons, ih _ _ _ h]
      · cases h
theorem g_tup {es : List Expr} {k : Nat} {sl : List Nat} (hc : X.calm = true) (h : PGs X es (tDGs X.K mg sl)) (hn : (assignEach es X.env).length = sl.length := by rfl) (hst : (assignEach es X.env).findIdx? (·.1) = none := by rfl) : PG X (.Tuple es k pos) (tDG X.K mg sl (gT sl)) := pg_imp (pg_or (pg_tup hc h hn hst) (pg_lst hc h hn hst)) fun v σ H Q => by
  rintro ⟨H0, ps, F, ρ, S, d, ρ', env, r, e, k⟩
  unfold gT at e
  split at e
  · rename_i ds
    cases r with
    | tup q r => exact .inl ⟨_, _, rfl, ex_t env.fh q, by rw [r.length, setAll_len _ _ _ _ e], H0, ps, F, ρ, S, ds, ρ', env, r, e, k⟩
  · rename_i ds
    cases r with
    | lst q r => exact .inr ⟨_, _, rfl, sq_of (env.fh _ _ q), by rw [r.length, setAll_len _ _ _ _ e], H0, ps, F, ρ, S, ds, ρ', env, r, e, k⟩
  · cases e
end
end DL

namespace DL
open PySem PySem.Spec PyProof.Rows L2 Evl
/-! ### comprehensions -/
theorem wipe_get (σ : L2.St) (i : Nat) : ∀ vs : List Nat, (wipe σ vs)[i]? = if i ∈ vs ∧ i < σ.length then some none else σ[i]?
  | [] => by simp [wipe]
  | v :: vs => by
    unfold wipe
    by_cases z : v = i
    · subst z
      by_cases hl : v < σ.length
      · rw [List.getElem?_set_self (by rw [wipe_length]; exact hl), if_pos ⟨List.mem_cons_self, hl⟩]
      · rw [List.getElem?_eq_none (by rw [List.length_set, wipe_length]; omega), if_neg (fun q => hl q.2), List.getElem?_eq_none (by omega)]
    · rw [List.getElem?_set_ne z, wipe_get σ i vs]
      by_cases hm : i ∈ vs
      · by_cases hl : i < σ.length
        · rw [if_pos ⟨hm, hl⟩, if_pos ⟨List.mem_cons_of_mem _ hm, hl⟩]
        · rw [if_neg (fun q => hl q.2), if_neg (fun q => hl q.2)]
      · rw [if_neg (fun q => hm q.1), if_neg (fun q => by
          rcases List.mem_cons.mp q.1 with e | e
          · exact z e.symm
          · exact hm e)]
theorem wipeD_get (ρ : DE) (i : Nat) : ∀ vs : List Nat, (wipeD ρ vs)[i]? = if i ∈ vs ∧ i < ρ.length then some none else ρ[i]?
  | [] => by simp [wipeD]
  | v :: vs => by
    have wl : ∀ vs : List Nat, (wipeD ρ vs).length = ρ.length := fun vs => by
      induction vs with
      | nil => rfl
      | cons v vs ih => unfold wipeD; rw [List.length_set, ih]
    unfold wipeD
    by_cases z : v = i
    · subst z
      by_cases hl : v < ρ.length
      · rw [List.getElem?_set_self (by rw [wl]; exact hl), if_pos ⟨List.mem_cons_self, hl⟩]
      · rw [List.getElem?_eq_none (by rw [List.length_set, wl]; omega), if_neg (fun q => hl q.2), List.getElem?_eq_none (by omega)]
    · rw [List.getElem?_set_ne z, wipeD_get ρ i vs]
      by_cases hm : i ∈ vs
      · by_cases hl : i < ρ.length
        · rw [if_pos ⟨hm, hl⟩, if_pos ⟨List.mem_cons_of_mem _ hm, hl⟩]
        · rw [if_neg (fun q => hl q.2), if_neg (fun q => hl q.2)]
      · rw [if_neg (fun q => hm q.1), if_neg (fun q => by
          rcases List.mem_cons.mp q.1 with e | e
          · exact z e.symm
          · exact hm e)]
theorem wipeD_length (ρ : DE) (vs : List Nat) : (wipeD ρ vs).length = ρ.length := by
  induction vs with
  | nil => rfl
  | cons v vs ih => unfold wipeD; rw [List.length_set, ih]
theorem wipe_same {σ σ' : L2.St} {sl vs : List Nat} (hl : σ'.length = (wipe σ vs).length) (hk : ∀ i, i ∉ sl → σ'[i]? = (wipe σ vs)[i]?) (hs : ∀ i ∈ sl, i ∈ vs) : wipe σ' vs = wipe σ vs := by
  apply List.ext_getElem?
  intro i
  rw [wipe_length] at hl
  rw [wipe_get, wipe_get]
  by_cases hm : i ∈ vs
  · rw [hl]
    by_cases hi : i < σ.length
    · rw [if_pos ⟨hm, hi⟩, if_pos ⟨hm, hi⟩]
    · rw [if_neg (fun q => hi q.2), if_neg (fun q => hi q.2), List.getElem?_eq_none (by omega), List.getElem?_eq_none (by omega)]
  · rw [if_neg (fun q => hm q.1), if_neg (fun q => hm q.1), hk i (fun z => hm (hs i z)), wipe_get, if_neg (fun q => hm q.1)]
section
variable {K : PySem.W.Frag} {mg : Str → Option Value} {H0 : Hp} {ps : Option Addr} {F H F1 H1 : Hp} {σ : L2.St} {ρ : DE} {S : List D}
theorem En.wipe (env : En K mg H0 ps F H σ ρ S) (vs : List Nat) : En K mg H0 ps F H (wipe σ vs) (wipeD ρ vs) S where
  fh := env.fh
  st := env.st
  len := by rw [wipe_length, wipeD_length]; exact env.len
  sl i d h := by
    rw [wipeD_get] at h
    split at h
    · cases h
    · rename_i hn
      obtain ⟨v, h1, h2⟩ := env.sl i d h
      exact ⟨v, by rw [wipe_get, env.len, if_neg hn]; exact h1, h2⟩
  mne i j xs ys v hij h1 h2 h3 := by
    rw [wipeD_get] at h1 h3
    rw [wipe_get, env.len] at h2 ⊢
    split at h1
    · cases h1
    · rename_i hn
      rw [if_neg hn] at h2
      split at h3
      · cases h3
      · rename_i hm
        rw [if_neg hm]
        exact env.mne i j xs ys v hij h1 h2 h3
/-- an own list beside -/
def delH' (H : Hp) (a : Addr) : Hp := fun b => if b = a then none else H b
theorem upd_delH' {H : Hp} {a : Addr} {u : HO} : upd (delH' H a) a u = upd H a u := by
  funext b; unfold upd delH'; split <;> rfl
theorem delH'_same {H : Hp} {a : Addr} : delH' H a a = none := by unfold delH'; rw [if_pos rfl]
theorem delH'_ne {H : Hp} {a b : Addr} (h : b ≠ a) : delH' H a b = H b := by unfold delH'; rw [if_neg h]
theorem En.beside {p : Addr} {o : HO} (env : En K mg H0 ps F H σ ρ S) (hp : H p = none) : En K mg H0 ps F (upd H p o) σ ρ S where
  fh a u q := by
    have z : a ≠ p := ne_of_none (env.fh a u q) hp
    rw [upd_ne z]; exact env.fh a u q
  st := ⟨fun q hq => by
    obtain ⟨h1, vs, h2, h3⟩ := env.st.1 q hq
    exact ⟨h1, vs, by rw [upd_ne (ne_of_none h2 hp)]; exact h2, h3⟩, env.st.2⟩
  len := env.len
  sl i d h := by
    obtain ⟨v, h1, h2⟩ := env.sl i d h
    refine ⟨v, h1, ?_⟩
    rcases h2 with h2 | ⟨xs, e, q, vs, e2, m1, m2, m3, m4, m5⟩ | h2
    · exact .inl h2
    · exact .inr (.inl ⟨xs, e, q, vs, e2, m1, by rw [upd_ne (ne_of_none m2 hp)]; exact m2, m3, m4, m5⟩)
    · exact .inr (.inr h2)
  mne := env.mne
/-- what happens beside an own list happens without it -/
theorem Ps.beside {α : Type} {E E' : XK} {m : M α} {p : Addr} {o : HO} {P : α → List D → Hp → Hp → Prop} (e : Ex F H) (st : StR K mg ps F H S) (hp : H p = none) (h : Ps K mg E ps F H (nox m S) P) :
    Ps K mg E' ps F (upd H p o) (m S) fun a S' F' H' => P a S' F' (delH' H' p) ∧ H' p = some o ∧ Grow ps F H F' (delH' H' p) ∧ StR K mg ps F' (delH' H' p) S' := by
  unfold nox at h
  cases hm : m S with
  | bad => rw [hm] at h; exact h.elim
  | exc c fs S' => rw [hm] at h; exact h.elim
  | ok a S' =>
    rw [hm] at h
    intro F' H' g st'
    have fp : F p = none := fresh_back e hp
    have hps : some p ≠ ps := fun z => by
      obtain ⟨_, vs, q, _⟩ := st.1 p z.symm
      rw [hp] at q; cases q
    have h1 : H' p = some o := g.hh p o upd_same hps
    have f1 : F' p = none := by rw [g.fr p (by rw [upd_same]; intro q; cases q)]; exact fp
    have g' : Grow ps F H F' (delH' H' p) := by
      refine ⟨g.ff, fun a u q => ?_, fun a q => ?_, fun a u q n => ?_⟩
      · have z : a ≠ p := ne_of_none q f1
        rw [delH'_ne z]; exact g.fh a u q
      · refine g.fr a ?_
        by_cases z : a = p
        · subst z; exact absurd hp q
        · rw [upd_ne z]; exact q
      · have z : a ≠ p := ne_of_none q hp
        rw [delH'_ne z]
        exact g.hh a u (by rw [upd_ne z]; exact q) n
    have s' : StR K mg ps F' (delH' H' p) S' := ⟨fun q hq => by
      obtain ⟨h2, vs, h3, h4⟩ := st'.1 q hq
      have z : q ≠ p := fun z => hps (by rw [← z]; exact hq.symm)
      exact ⟨h2, vs, by rw [delH'_ne z]; exact h3, h4⟩, st'.2⟩
    exact ⟨h _ _ g' s', h1, g', s'⟩
end
section
variable {X : Cx} {mg : Str → Option Value} {E : XK}
/-- a comprehension's reading -/
theorem go_lc {it : DE → M (List D)} {sl : List Nat} {γ : D → DE → Option DE} {τ : DE → M Bool} {φ : DE → M D} {vs : List Nat} {K : PySem.W.Frag} (hsl : ∀ i ∈ sl, i ∈ vs) : ∀ σ H Q, tDL K mg E (lLc it γ τ φ vs) σ H Q →
    tLc (tDI K mg E it) (tDG K mg sl γ) (tDT K mg (fun _ _ _ => False) τ) (tD K mg (fun _ _ _ => False) φ) vs σ H Q := by
  rintro σ H Q ⟨H0, ps, F, ρ, S, env, h⟩
  refine ⟨H0, ps, F, ρ, S, env, (Ps.bnd env.st h).imp fun xs S1 F1 H1 g1 st1 h1 J hJ Dl hD => ?_⟩
  have env1 := env.grow g1 st1
  split at h1
  · rename_i hlen
    -- the state behind i turns
    refine ⟨fun i m H2 => m + i = xs.length ∧ ∃ F2 S2 Hd acc done, H2 = upd Hd Dl (.lst acc) ∧ Hd Dl = none ∧ Grow ps F1 H1 F2 Hd ∧ StR K mg ps F2 Hd S2 ∧ acc.length ≤ i ∧ Rps K mg F2 acc done ∧
      Ps K mg E ps F2 Hd (bnd (lcD γ τ φ (wipeD ρ vs) (xs.drop i)) (fun ys => ret (done ++ ys)) S2) fun ds _ F' H' => ∀ p vs, H' p = none → Rps K mg F' vs ds → Q (.ref p) (upd H' p (.lst vs)), ?_, ?_⟩
    · refine ⟨xs.length, by omega, F1, S1, H1, [], [], rfl, hD, Grow.refl g1.fh, st1, Nat.le_refl _, .nil, ?_⟩
      rw [List.drop_zero]
      have e : (bnd (lcD γ τ φ (wipeD ρ vs) xs) fun ys => ret ([] ++ ys)) = lcD γ τ φ (wipeD ρ vs) xs := by
        funext S
        unfold DL.bnd
        cases lcD γ τ φ (wipeD ρ vs) xs S <;> rfl
      rw [e]; exact h1
    · rintro i m H2 ⟨hm, F2, S2, Hd, acc, done, rfl, hd, g2, st2, hacc, hr, h2⟩
      have env2 : En K mg H0 ps F2 Hd σ ρ S2 := env1.grow g2 st2
      have envb : En K mg H0 ps F2 (upd Hd Dl (.lst acc)) σ ρ S2 := env2.beside hd
      by_cases hi : i < xs.length
      · right
        refine ⟨hJ.go F2 _ i g2.ff envb.fh hi, fun H' => ∃ m', m' < m ∧ (m' + (i + 1) = xs.length ∧ ∃ F2 S2 Hd acc done, H' = upd Hd Dl (.lst acc) ∧ Hd Dl = none ∧ Grow ps F1 H1 F2 Hd ∧ StR K mg ps F2 Hd S2 ∧ acc.length ≤ i + 1 ∧ Rps K mg F2 acc done ∧
          Ps K mg E ps F2 Hd (bnd (lcD γ τ φ (wipeD ρ vs) (xs.drop (i + 1))) (fun ys => ret (done ++ ys)) S2) fun ds _ F' H' => ∀ p vs, H' p = none → Rps K mg F' vs ds → Q (.ref p) (upd H' p (.lst vs))), fun H' w => w, ?_⟩
        intro x H' hy
        obtain ⟨F3, hst, rx⟩ := hJ.yld F2 _ H' i x xs[i] g2.ff envb.fh (List.getElem?_eq_getElem hi) hy
        -- the world behind the yield, without the own list
        obtain ⟨Hd3, rfl, hd3, g3, st3, ff3⟩ : ∃ Hd3, H' = upd Hd3 Dl (.lst acc) ∧ Hd3 Dl = none ∧ Grow ps F1 H1 F3 Hd3 ∧ StR K mg ps F3 Hd3 S2 ∧ (Grow ps F2 Hd F3 Hd3) := by
          rcases hst with ⟨rfl, rfl⟩ | ⟨T, o, hT, rfl, rfl⟩
          · exact ⟨Hd, rfl, hd, g2, st2, Grow.refl g2.fh⟩
          · have nT : T ≠ Dl := fun z => by rw [z, upd_same] at hT; cases hT
            have hT2 : Hd T = none := by rw [upd_ne nT] at hT; exact hT
            have s3 := st2.new (o := o) g2.fh hT2
            refine ⟨upd Hd T o, ?_, by rw [upd_ne nT.symm]; exact hd, Grow.trans st1 g2 st2 (Grow.new g2.fh hT2), s3, Grow.new g2.fh hT2⟩
            funext b
            unfold upd
            by_cases z1 : b = T
            · rw [if_pos z1, if_neg (fun z => nT (z1.symm.trans z)), if_pos z1]
            · rw [if_neg z1]
              by_cases z2 : b = Dl
              · rw [if_pos z2, if_pos z2]
              · rw [if_neg z2, if_neg z2, if_neg z1]
        have env3 : En K mg H0 ps F3 Hd3 σ ρ S2 := env1.grow g3 st3
        have env3b : En K mg H0 ps F3 (upd Hd3 Dl (.lst acc)) σ ρ S2 := env3.beside hd3
        have ed : xs.drop i = xs[i] :: xs.drop (i + 1) := List.drop_eq_getElem_cons hi
        have h2 : Ps K mg E ps F3 Hd3 (bnd (lcD γ τ φ (wipeD ρ vs) (xs.drop i)) (fun ys => ret (done ++ ys)) S2) fun ds _ F' H' => ∀ p vs, H' p = none → Rps K mg F' vs ds → Q (.ref p) (upd H' p (.lst vs)) := by
          cases hb : (bnd (lcD γ τ φ (wipeD ρ vs) (xs.drop i)) (fun ys => ret (done ++ ys)) S2) with
          | bad => rw [hb] at h2; exact h2
          | ok ds S' => rw [hb] at h2; exact fun F' H' g st => h2 F' H' (Grow.trans st2 ff3 st3 g) st
          | exc c fs S' => rw [hb] at h2; exact fun cls dx F' H' g st => h2 cls dx F' H' (Grow.trans st2 ff3 st3 g) st
        rw [ed] at h2
        unfold lcD at h2
        rw [bnd_assoc] at h2
        obtain ⟨ρ1, e1, h3⟩ := (Ps.bnd st3 h2).opt
        have h3 := h3 F3 Hd3 (Grow.refl g3.fh) st3
        refine ⟨H0, ps, F3, wipeD ρ vs, S2, xs[i], ρ1, env3b.wipe vs, rx, e1, fun σ2 hl hk env4 => ⟨wipe_same hl hk hsl, ?_⟩⟩
        rw [bnd_assoc] at h3
        refine ⟨H0, ps, F3, ρ1, S2, env4, (Ps.beside g3.fh st3 hd3 (Ps.bnd st3 h3)).imp fun b S4 F4 H4 g4 st4 ⟨h4, q4, gd4, sd4⟩ => ?_⟩
        have hd4 : (delH' H4 Dl) Dl = none := delH'_same
        have e4 : H4 = upd (delH' H4 Dl) Dl (.lst acc) := by
          funext b; unfold upd delH'
          by_cases z : b = Dl
          · rw [if_pos z, z]; exact q4
          · rw [if_neg z, if_neg z]
        have env5 : En K mg H0 ps F4 H4 σ2 ρ1 S4 := env4.grow g4 st4
        cases b with
        | false =>
          dsimp only at h4 ⊢
          rw [if_neg (by decide)] at h4 ⊢
          exact ⟨m - 1, by omega, by omega, F4, S4, delH' H4 Dl, acc, done, e4, hd4, Grow.trans st1 g3 st3 gd4, sd4, by omega, hr.mono (ff3.ff.trans gd4.ff), h4⟩
        | true =>
          dsimp only at h4 ⊢
          rw [if_pos rfl] at h4 ⊢
          rw [bnd_assoc] at h4
          have hb := Ps.beside (E' := fun _ _ _ => False) (o := .lst acc) gd4.fh sd4 hd4 (Ps.bnd sd4 h4)
          rw [← e4] at hb
          refine ⟨H0, ps, F4, ρ1, S4, env5, hb.imp fun y S5 F5 H5 g5 st5 ⟨h5, q5, gd5, sd5⟩ v hv => ?_⟩
          split at h5
          · rename_i hdy
            have rv := hv.rp hdy
            rw [bnd_assoc] at h5
            refine ⟨acc, q5, sz_lt (by omega), m - 1, by omega, by omega, F5, S5, delH' H5 Dl, acc ++ [v], done ++ [y], upd_delH'.symm, delH'_same, Grow.trans st1 (Grow.trans st1 g3 st3 gd4) sd4 gd5, sd5, by rw [List.length_append]; simp; omega,
              (hr.mono ((ff3.ff.trans gd4.ff).trans gd5.ff)).append (.cons rv .nil), ?_⟩
            have e : (bnd (lcD γ τ φ (wipeD ρ vs) (xs.drop (i + 1))) fun ys => ret (done ++ [y] ++ ys)) = (bnd (lcD γ τ φ (wipeD ρ vs) (xs.drop (i + 1))) fun ys => bnd (ret (y :: ys)) fun ys => ret (done ++ ys)) := by
              congr; funext ys; rw [bnd_ret, List.append_assoc]; rfl
            rw [e]; exact h5
          · exact h5.elim
      · left
        have hi : i = xs.length := by omega
        subst hi
        rw [List.drop_length] at h2
        unfold lcD at h2
        rw [bnd_ret, List.append_nil] at h2
        exact ⟨hJ.stop F2 _ g2.ff envb.fh, h2.ret F2 Hd (Grow.refl g2.fh) st2 Dl acc hd hr⟩
  · exact h1.elim
theorem l_lc {elt tg iter : Expr} {ifs : List Expr} {scope : Scope} {own : List (Str × Nat)} {pos : Pos} {it : DE → M (List D)} {sl : List Nat} {γ : D → DE → Option DE} {τ : DE → M Bool} {φ : DE → M D} (hc : X.calm = true) (hN : X.N.Nodup) (hi : PI X tg iter (tDI X.K mg E it)) (ok : BlkOk X.N X.env.scope scope own) (hsl : ∀ i ∈ sl, i ∈ own.map (·.2))
    (hg : ∀ (s : Shared) (H : Hp) (C : Addr) (cl : List (Str × Addr)) (fp : List Addr), PG (X.blk s H scope (compEnvC scope cl C X.env) fp) tg (tDG X.K mg sl γ)) (ht : ∀ (s : Shared) (H : Hp) (C : Addr) (cl : List (Str × Addr)) (fp : List Addr), PTs (X.blk s H scope (compEnvC scope cl C X.env) fp) ifs (tDT X.K mg (fun _ _ _ => False) τ))
    (he : ∀ (s : Shared) (H : Hp) (C : Addr) (cl : List (Str × Addr)) (fp : List Addr), PE (X.blk s H scope (compEnvC scope cl C X.env) fp) elt (tD X.K mg (fun _ _ _ => False) φ)) (hs : ∀ x, foldedSetIterable iter X.env x = pure x := by intro _; rfl) :
    PE X (.ListComp elt [⟨tg, iter, ifs, 0⟩] scope pos) (tDL X.K mg E (lLc it γ τ φ (own.map (·.2)))) := pe_imp (pe_lc hc hN hi ok hg ht he hs) (go_lc hsl)
theorem ts_nil : PTs X [] (tDT X.K mg E tY) := ⟨fun pins s σ H Q I h => pts_nil.run pins s σ H Q I (by
  obtain ⟨H0, ps, F, ρ, S, env, h⟩ := h
  exact h.ret F H (Grow.refl env.fh) env.st)⟩
theorem ts_one {c : Expr} {τ : DE → M Bool} (h : PT X c (tDT X.K mg E τ)) : PTs X [c] (tDT X.K mg E τ) := pts_one h
end

/-! ### statements -/
structure Base (F0 H0 : Hp) (ps0 ps : Option Addr) (F H : Hp) : Prop where
  ff : Ex F0 F
  fr : ∀ a, H0 a ≠ none → F a = F0 a
  hh : ∀ a o, H0 a = some o → some a ≠ ps0 → H a = some o
  psn : ps = ps0 ∨ (ps0 = none ∧ ∀ p, ps = some p → H0 p = none)
section
variable {K : PySem.W.Frag} {mg : Str → Option Value} {F0 H0 : Hp} {ps0 ps : Option Addr} {F H F1 H1 : Hp} {S S1 : List D}
theorem Base.refl (e : Ex F H) : Base F H ps ps F H := ⟨Ex.refl F, fun _ _ => rfl, fun _ _ h _ => h, .inl rfl⟩
theorem Base.kept (b : Base F0 H0 ps0 ps F H) (st : StR K mg ps F H S) {a : Addr} (h : H0 a ≠ none) : H a ≠ none := by
  by_cases z : some a = ps0
  · rcases b.psn with e | ⟨e, _⟩
    · obtain ⟨_, vs, q, _⟩ := st.1 a (by rw [e]; exact z.symm)
      rw [q]; intro q; cases q
    · rw [e] at z; cases z
  · cases q : H0 a with
    | none => exact absurd q h
    | some o => rw [b.hh a o q z]; intro q; cases q
theorem Base.fresh (b : Base F0 H0 ps0 ps F H) (st : StR K mg ps F H S) {a : Addr} (h : H a = none) : H0 a = none := by
  cases q : H0 a with
  | none => rfl
  | some o => exact absurd h (b.kept st (by rw [q]; intro q; cases q))
theorem Base.grow (b : Base F0 H0 ps0 ps F H) (st : StR K mg ps F H S) (g : Grow ps F H F1 H1) : Base F0 H0 ps0 ps F1 H1 := by
  refine ⟨b.ff.trans g.ff, fun a h => ?_, fun a o h n => ?_, b.psn⟩
  · rw [g.fr a (b.kept st h), b.fr a h]
  · refine g.hh a o (b.hh a o h n) ?_
    rcases b.psn with e | ⟨_, e⟩
    · rw [e]; exact n
    · intro z; rw [e a z.symm] at h; cases h
theorem Base.trans (b : Base F0 H0 ps0 ps F H) {ps1 : Option Addr} {F2 H2 : Hp} (c : Base F H0 ps0 ps1 F2 H2) : Base F0 H0 ps0 ps1 F2 H2 :=
  ⟨b.ff.trans c.ff, fun a h => by rw [c.fr a h, b.fr a h], c.hh, c.psn⟩
theorem Base.here (b : Base F0 H0 ps0 ps F H) : Base F H0 ps0 ps F H := ⟨Ex.refl F, fun _ _ => rfl, b.hh, b.psn⟩
end
section
variable (K : PySem.W.Frag) (mg : Str → Option Value) (E : XK)
/-- what is wanted behind a statement -/
def FlP (F0 H0 : Hp) (ps0 : Option Addr) (D : Ends) : Fl → List DL.D → Prop
  | .nx ρ', S' => ∀ σ' ps' F' H', En K mg H0 ps' F' H' σ' ρ' S' → Base F0 H0 ps0 ps' F' H' → D.nx σ' H'
  | .bk ρ', S' => ∀ σ' ps' F' H', En K mg H0 ps' F' H' σ' ρ' S' → Base F0 H0 ps0 ps' F' H' → D.bk σ' H'
  | .ct ρ', S' => ∀ σ' ps' F' H', En K mg H0 ps' F' H' σ' ρ' S' → Base F0 H0 ps0 ps' F' H' → D.ct σ' H'
  | .rt d, S' => ∀ v ps' F' H', Ex F' H' → StR K mg ps' F' H' S' → Base F0 H0 ps0 ps' F' H' → Rp K mg F' v d → D.rt v H'
  | .rl xs, S' => ∀ p vs ps' F' H', Ex F' H' → StR K mg ps' F' H' S' → Base F0 H0 ps0 ps' F' H' → H' p = none → Rps K mg F' vs xs → D.rt (.ref p) (upd H' p (.lst vs))
def FlR (F0 H0 : Hp) (ps0 : Option Addr) (D : Ends) (r : R Fl) : Prop := match r with
  | .bad => False
  | .ok f S' => FlP K mg F0 H0 ps0 D f S'
  | .exc c fs S' => ∀ cls dx ps' F' H', Ex F' H' → StR K mg ps' F' H' S' → Base F0 H0 ps0 ps' F' H' → ExR K mg F' H' cls dx c fs → E cls dx H'
def tS (ψ : DS) : TS := fun D σ H => ∃ F0 H0 ps0 ps F ρ S, En K mg H0 ps F H σ ρ S ∧ Base F0 H0 ps0 ps F H ∧ FlR K mg E F0 H0 ps0 D (ψ ρ S)
end
section
variable {K : PySem.W.Frag} {mg : Str → Option Value} {E : XK} {F0 H0 : Hp} {ps0 ps : Option Addr} {F H F1 H1 : Hp} {S S1 : List D} {D : Ends}
/-- a computation ahead of a statement's end -/
theorem FlR.run {α : Type} {m : M α} {f : α → M Fl} (st : StR K mg ps F H S) (b : Base F0 H0 ps0 ps F H) (h : FlR K mg E F0 H0 ps0 D (bnd m f S)) :
    Ps K mg E ps F H (m S) fun a S1 F1 H1 => FlR K mg E F0 H0 ps0 D (f a S1) := by
  cases hm : m S with
  | bad => unfold DL.bnd at h; rw [hm] at h; exact h
  | exc c fs S' =>
    unfold DL.bnd at h; rw [hm] at h
    exact fun cls dx F' H' g st' e => h cls dx ps F' H' g.fh st' (b.grow st g) e
  | ok a S1 =>
    rw [bnd_ok hm] at h
    exact fun F1 H1 g st1 => h
theorem FlR.base (b : Base F0 H0 ps0 ps F H) {r : R Fl} (h : FlR K mg E F0 H0 ps0 D r) : FlR K mg E F H0 ps0 D r := by
  cases r with
  | bad => exact h
  | exc c fs S' => exact fun cls dx ps' F' H' e st bb x => h cls dx ps' F' H' e st (b.trans bb) x
  | ok f S' =>
    cases f with
    | nx ρ => exact fun σ' ps' F' H' en bb => h σ' ps' F' H' en (b.trans bb)
    | bk ρ => exact fun σ' ps' F' H' en bb => h σ' ps' F' H' en (b.trans bb)
    | ct ρ => exact fun σ' ps' F' H' en bb => h σ' ps' F' H' en (b.trans bb)
    | rt d => exact fun v ps' F' H' e st bb r => h v ps' F' H' e st (b.trans bb) r
    | rl d => exact fun p vs ps' F' H' e st bb hp r => h p vs ps' F' H' e st (b.trans bb) hp r
end
section
variable {X : Cx} {mg : Str → Option Value} {E : XK} {a b e c : Expr} {es : List Expr} {φ ψ : DE → M D} {τ υ : DE → M Bool} {pos : Pos} {st : Stmt} {rest : List Stmt} {s t : DS}
theorem z_nil : PSs X [] (tS X.K mg E sSkip) := pss_imp pss_nil fun D σ H => by
  rintro ⟨F0, H0, ps0, ps, F, ρ, S, env, bs, h⟩
  exact h σ ps F H env bs
theorem z_one (h : PS X st (tS X.K mg E s)) : PSs X [st] (tS X.K mg E s) := pss_one h
theorem z_cons (h1 : PS X st (tS X.K mg E s)) (h2 : PSs X rest (tS X.K mg E t)) : PSs X (st :: rest) (tS X.K mg E (sSeq s t)) := pss_imp (pss_cons h1 h2) fun D σ H => by
  rintro ⟨F0, H0, ps0, ps, F, ρ, S, env, bs, h⟩
  refine ⟨F0, H0, ps0, ps, F, ρ, S, env, bs, ?_⟩
  unfold sSeq DL.bnd at h
  cases hs : s ρ S with
  | bad => rw [hs] at h; exact h
  | exc c fs S' => rw [hs] at h; exact h
  | ok f S' =>
    rw [hs] at h
    cases f with
    | nx ρ' => exact fun σ' ps' F' H' en bb => ⟨F0, H0, ps0, ps', F', ρ', S', en, bb, h⟩
    | bk ρ' => exact h
    | ct ρ' => exact h
    | rt d => exact h
    | rl d => exact h
theorem z_pass : PS X (.Pass pos) (tS X.K mg E sSkip) := ps_imp ps_pass fun D σ H => by
  rintro ⟨F0, H0, ps0, ps, F, ρ, S, env, bs, h⟩
  exact h σ ps F H env bs
theorem z_if {x y : List Stmt} (hc : PT X c (tDT X.K mg E τ)) (ha : PSs X x (tS X.K mg E s)) (hb : PSs X y (tS X.K mg E t)) : PS X (.If c x y pos) (tS X.K mg E (sIf τ s t)) := ps_imp (ps_if hc ha hb) fun D σ H => by
  rintro ⟨F0, H0, ps0, ps, F, ρ, S, env, bs, h⟩
  refine ⟨H0, ps, F, ρ, S, env, (FlR.run env.st bs h).imp fun x S1 F1 H1 g1 st1 h1 => ?_⟩
  cases x with
  | true => exact ⟨F0, H0, ps0, ps, F1, ρ, S1, env.grow g1 st1, bs.grow env.st g1, h1⟩
  | false => exact ⟨F0, H0, ps0, ps, F1, ρ, S1, env.grow g1 st1, bs.grow env.st g1, h1⟩
theorem go_A {i : Nat} : ∀ D σ H, tS X.K mg E (sA i φ) D σ H → tAsg (tD X.K mg E φ) (gName i) D σ H := fun D σ H => by
  rintro ⟨F0, H0, ps0, ps, F, ρ, S, env, bs, h⟩
  refine ⟨H0, ps, F, ρ, S, env, (FlR.run env.st bs h).imp fun x S1 F1 H1 g1 st1 h1 v hv => ?_⟩
  split at h1
  · rename_i hd
    exact h1 _ ps F1 H1 ((env.grow g1 st1).set (hv.rp hd) i) (bs.grow env.st g1)
  · exact h1.elim
theorem z_set {i : Nat} {x : Str} {pos' : Pos} (hN : X.N.Nodup) (hi : X.N[i]? = some x) (hx : Loc X.env.scope x) (he : PE X e (tD X.K mg E φ)) (hs : swapsWith e (some (.Name x pos')) pos.line X.env = pure false := by rfl) (hf : X.fn x = true ∨ X.env.scope.names.lookup x = some .local := by first | exact .inl rfl | exact .inr rfl | assumption) :
    PS X (.Assign [.Name x pos'] e pos) (tS X.K mg E (sA i φ)) := ps_imp (ps_set hN hi hx he hs hf) go_A
/-- a local list at a slot -/
theorem En.setMu {K : PySem.W.Frag} {H0 : Hp} {ps : Option Addr} {F H : Hp} {σ : L2.St} {ρ : DE} {S : List D} {p : Addr} {vs : List V} {xs : List D} (env : En K mg H0 ps F H σ ρ S) (hp : H p = none) (h0 : H0 p = none) (r : Rps K mg F vs xs) (i : Nat) :
    En K mg H0 ps F (upd H p (.lst vs)) (σ.set i (some (.ref p))) (ρ.set i (some (.mu xs))) S := by
  have env2 := env.beside (o := .lst vs) hp
  have hps : some p ≠ ps := fun z => by
    obtain ⟨_, ws, q, _⟩ := env.st.1 p z.symm
    rw [hp] at q; cases q
  refine ⟨env2.fh, env2.st, by rw [List.length_set, List.length_set]; exact env.len, fun j d h => ?_, fun j k ys zs v hjk h1 h2 h3 h4 => ?_⟩
  · by_cases z : i = j
    · subst z
      have hl : i < ρ.length := by
        have := (List.getElem?_eq_some_iff.mp h).1
        rw [List.length_set] at this; exact this
      rw [List.getElem?_set_self hl] at h; cases h
      exact ⟨_, List.getElem?_set_self (by rw [env.len]; exact hl), .inr (.inl ⟨xs, rfl, p, vs, rfl, fresh_back env.fh hp, upd_same, r, h0, hps⟩)⟩
    · rw [List.getElem?_set_ne z] at h
      obtain ⟨w, h1, h2⟩ := env2.sl j d h
      exact ⟨w, by rw [List.getElem?_set_ne z]; exact h1, h2⟩
  · -- two different lists stand apart
    have far : ∀ (k : Nat) (zs : List DL.D), ρ[k]? = some (some (.mu zs)) → σ[k]? ≠ some (some (.ref p)) := fun k zs hk hq => by
      obtain ⟨w, e1, e2⟩ := env.sl k _ hk
      rw [hq] at e1; cases e1
      rcases e2 with e2 | ⟨_, _, q, ws, e, _, m, _⟩ | ⟨e, _⟩
      · cases e2
      · cases e; rw [hp] at m; cases m
      · cases e
    by_cases zj : i = j
    · subst zj
      have hl : i < σ.length := by
        have := (List.getElem?_eq_some_iff.mp h2).1
        rw [List.length_set] at this; exact this
      rw [List.getElem?_set_self hl] at h2; cases h2
      rw [List.getElem?_set_ne hjk] at h3 h4
      exact far k zs h3 h4
    · rw [List.getElem?_set_ne zj] at h1 h2
      by_cases zk : i = k
      · subst zk
        have hl : i < σ.length := by
          have := (List.getElem?_eq_some_iff.mp h4).1
          rw [List.length_set] at this; exact this
        rw [List.getElem?_set_self hl] at h4; cases h4
        exact far j ys h1 h2
      · rw [List.getElem?_set_ne zk] at h3 h4
        exact env.mne j k ys zs v hjk h1 h2 h3 h4
theorem Base.beside {F0 H0 : Hp} {ps0 ps : Option Addr} {F H : Hp} {p : Addr} {o : HO} (b : Base F0 H0 ps0 ps F H) (h0 : H0 p = none) : Base F0 H0 ps0 ps F (upd H p o) :=
  ⟨b.ff, b.fr, fun a u h n => by rw [upd_ne (ne_of_none h h0)]; exact b.hh a u h n, b.psn⟩
variable {l : DE → M (List D)}
theorem go_M {i : Nat} : ∀ D σ H, tS X.K mg E (sM i l) D σ H → tAsg (tDL X.K mg E l) (gName i) D σ H := fun D σ H => by
  rintro ⟨F0, H0, ps0, ps, F, ρ, S, env, bs, h⟩
  refine ⟨H0, ps, F, ρ, S, env, (FlR.run env.st bs h).imp fun xs S1 F1 H1 g1 st1 h1 p vs hp r => ?_⟩
  have bs1 := bs.grow env.st g1
  have h0 := bs1.fresh st1 hp
  exact h1 _ ps F1 _ ((env.grow g1 st1).setMu hp h0 r i) (bs1.beside h0)
theorem z_mut {i : Nat} {x : Str} {pos' : Pos} (hN : X.N.Nodup) (hi : X.N[i]? = some x) (hx : Loc X.env.scope x) (he : PE X e (tDL X.K mg E l)) (hs : swapsWith e (some (.Name x pos')) pos.line X.env = pure false := by rfl) (hf : X.fn x = true ∨ X.env.scope.names.lookup x = some .local := by first | exact .inl rfl | exact .inr rfl | assumption) :
    PS X (.Assign [.Name x pos'] e pos) (tS X.K mg E (sM i l)) := ps_imp (ps_set hN hi hx he hs hf) go_M
/-- state = f(..) -/
theorem go_new {i : Nat} : ∀ D σ H, tS X.K mg E (sNew i l) D σ H → tAsg (tDL X.K mg E l) (gName i) D σ H := fun D σ H => by
  rintro ⟨F0, H0, ps0, ps, F, ρ, S, env, bs, h⟩
  refine ⟨H0, ps, F, ρ, S, env, (FlR.run env.st bs h).imp fun xs S1 F1 H1 g1 st1 h1 p vs hp r => ?_⟩
  have bs1 := bs.grow env.st g1
  have h0 := bs1.fresh st1 hp
  have env1 := env.grow g1 st1
  split at h1
  · have hn : ps = none := by
      cases hq : ps with
      | none => rfl
      | some q =>
        obtain ⟨_, ws, _, r⟩ := st1.1 q hq
        cases r with
        | cons a r => cases a
    subst hn
    have hn0 : ps0 = none := by
      rcases bs.psn with e | ⟨e, _⟩
      · exact e.symm
      · exact e
    have env2 := env1.beside (o := .lst vs) hp
    have env3 : En X.K mg H0 (some p) F1 (upd H1 p (.lst vs)) σ ρ xs := by
      refine ⟨env2.fh, ⟨fun q hq => ?_, fun q => by cases q⟩, env2.len, fun j d hj => ?_, env2.mne⟩
      · cases hq; exact ⟨fresh_back g1.fh hp, vs, upd_same, r⟩
      · obtain ⟨w, e1, e2⟩ := env1.sl j d hj
        refine ⟨w, e1, ?_⟩
        rcases e2 with e2 | ⟨ys, e, q, ws, e', m1, m2, m3, m4, m5⟩ | ⟨_, _, e, _⟩
        · exact .inl e2
        · exact .inr (.inl ⟨ys, e, q, ws, e', m1, by rw [upd_ne (ne_of_none m2 hp)]; exact m2, m3, m4, fun z => by cases z; rw [hp] at m2; cases m2⟩)
        · cases e
    have b3 : Base F0 H0 ps0 (some p) F1 (upd H1 p (.lst vs)) := by
      have := bs1.beside (o := .lst vs) h0
      exact ⟨this.ff, this.fr, this.hh, .inr ⟨hn0, fun q hq => by cases hq; exact h0⟩⟩
    refine h1 _ (some p) F1 _ ?_ b3
    -- the slot
    refine ⟨env3.fh, env3.st, by rw [List.length_set, List.length_set]; exact env3.len, fun j d hj => ?_, fun j k ys zs v hjk e1 e2 e3 => ?_⟩
    · by_cases z : i = j
      · subst z
        have hl : i < ρ.length := by
          have := (List.getElem?_eq_some_iff.mp hj).1
          rw [List.length_set] at this; exact this
        rw [List.getElem?_set_self hl] at hj; cases hj
        exact ⟨_, List.getElem?_set_self (by rw [env.len]; exact hl), .inr (.inr ⟨rfl, p, rfl, rfl⟩)⟩
      · rw [List.getElem?_set_ne z] at hj
        obtain ⟨w, q1, q2⟩ := env3.sl j d hj
        exact ⟨w, by rw [List.getElem?_set_ne z]; exact q1, q2⟩
    · have nj : i ≠ j := fun z => by
        subst z
        have hl : i < ρ.length := by
          have := (List.getElem?_eq_some_iff.mp e1).1
          rw [List.length_set] at this; exact this
        rw [List.getElem?_set_self hl] at e1; cases e1
      have nk : i ≠ k := fun z => by
        subst z
        have hl : i < ρ.length := by
          have := (List.getElem?_eq_some_iff.mp e3).1
          rw [List.length_set] at this; exact this
        rw [List.getElem?_set_self hl] at e3; cases e3
      rw [List.getElem?_set_ne nj] at e1 e2
      rw [List.getElem?_set_ne nk] at e3 ⊢
      exact env3.mne j k ys zs v hjk e1 e2 e3
  · exact h1.elim
theorem z_new {i : Nat} {x : Str} {pos' : Pos} (hN : X.N.Nodup) (hi : X.N[i]? = some x) (hx : Loc X.env.scope x) (he : PE X e (tDL X.K mg E l)) (hs : swapsWith e (some (.Name x pos')) pos.line X.env = pure false := by rfl) (hf : X.fn x = true ∨ X.env.scope.names.lookup x = some .local := by first | exact .inl rfl | exact .inr rfl | assumption) :
    PS X (.Assign [.Name x pos'] e pos) (tS X.K mg E (sNew i l)) := ps_imp (ps_set hN hi hx he hs hf) go_new
/-- name = [.. for ..] -/
theorem lc_set {i : Nat} {y : Str} {py : Pos} {elt tg iter : Expr} {ifs : List Expr} {scope : Scope} {own : List (Str × Nat)} {pos spos : Pos} {it : DE → M (List D)} {sl : List Nat} {γ : D → DE → Option DE} (hc : X.calm = true) (hN : X.N.Nodup) (hy : X.N[i]? = some y) (hyl : X.env.scope.names.lookup y = some .local)
    (hsw : swapsWith (.ListComp elt [⟨tg, iter, ifs, 0⟩] scope pos) (some (.Name y py)) spos.line X.env = pure true) (hi : PI X tg iter (tDI X.K mg E it)) (ok : BlkOk X.N X.env.scope scope own) (hsl : ∀ i ∈ sl, i ∈ own.map (·.2))
    (hg : ∀ (s : Shared) (H : Hp) (C : Addr) (cl : List (Str × Addr)) (fp : List Addr), PG (X.blk s H scope (compEnvC scope cl C X.env) fp) tg (tDG X.K mg sl γ)) (ht : ∀ (s : Shared) (H : Hp) (C : Addr) (cl : List (Str × Addr)) (fp : List Addr), PTs (X.blk s H scope (compEnvC scope cl C X.env) fp) ifs (tDT X.K mg (fun _ _ _ => False) τ))
    (he : ∀ (s : Shared) (H : Hp) (C : Addr) (cl : List (Str × Addr)) (fp : List Addr), PE (X.blk s H scope (compEnvC scope cl C X.env) fp) elt (tD X.K mg (fun _ _ _ => False) φ)) (hs : ∀ x, foldedSetIterable iter X.env x = pure x := by intro _; rfl) :
    PS X (.Assign [.Name y py] (.ListComp elt [⟨tg, iter, ifs, 0⟩] scope pos) spos) (tAsg (tDL X.K mg E (lLc it γ τ φ (own.map (·.2)))) (gName i)) :=
  ps_imp (ps_setLc hc hN hy hyl hsw hi ok hg ht he hs) fun D σ H h => go_lc hsl σ H _ h
theorem go_AL {i : Nat} : ∀ D σ H, tS X.K mg E (sA i (eL l)) D σ H → tAsg (tDL X.K mg E l) (gName i) D σ H := fun D σ H h => by
  obtain ⟨F0, H0, ps0, ps, F, ρ, S, env, bs, h⟩ := h
  refine ⟨H0, ps, F, ρ, S, env, ?_⟩
  have h' : FlR X.K mg E F0 H0 ps0 D (bnd (l ρ) (fun xs => bnd (ret (DL.D.lst xs)) fun d => if DL.dat d then ret (.nx (ρ.set i (some d))) else bad) S) := by
    rw [← bnd_assoc]; exact h
  refine (FlR.run env.st bs h').imp fun xs S1 F1 H1 g1 st1 h1 p vs hp r => ?_
  have bs1 := bs.grow env.st g1
  have gn : Grow ps F1 H1 (upd F1 p (.lst vs)) (upd H1 p (.lst vs)) := Grow.new g1.fh hp
  have sn : StR X.K mg ps (upd F1 p (.lst vs)) (upd H1 p (.lst vs)) S1 := st1.new g1.fh hp
  exact h1 _ ps _ _ (((env.grow g1 st1).grow gn sn).set (.lst upd_same (r.mono gn.ff)) i) (bs1.grow st1 gn)
/-- .. as a kept value, a list to change, the law's list -/
theorem z_tA {i : Nat} {st : Stmt} (h : PS X st (tAsg (tDL X.K mg E l) (gName i))) : PS X st (tS X.K mg E (sA i (eL l))) := ps_imp h go_AL
theorem z_tM {i : Nat} {st : Stmt} (h : PS X st (tAsg (tDL X.K mg E l) (gName i))) : PS X st (tS X.K mg E (sM i l)) := ps_imp h go_M
/-- targets that are a tuple of names -/
theorem z_tup {tg : Expr} {sl : List Nat} (he : PE X e (tD X.K mg E φ)) (hg : PG X tg (tDG X.K mg sl (gT sl))) (hs : swapsWithSole [tg] e pos.line X.env = pure false := by rfl) (hw : swappedStores [tg] e X.env = pure none := by rfl)
    (h1 : (assignEach [tg] X.env).map (·.2) = [assign tg X.env] := by rfl) : PS X (.Assign [tg] e pos) (tS X.K mg E (sT sl φ)) := ps_imp (ps_asg he hg hs hw h1) fun D σ H => by
  rintro ⟨F0, H0, ps0, ps, F, ρ, S, env, bs, h⟩
  refine ⟨H0, ps, F, ρ, S, env, (FlR.run env.st bs h).imp fun d S1 F1 H1 g1 st1 h1 v hv => ?_⟩
  have bs1 := bs.grow env.st g1
  have h2 := FlR.run st1 bs1 h1
  obtain ⟨ρ', e, k⟩ := h2.opt
  have hd : DL.dat d = true := by
    unfold gT at e
    split at e
    · rfl
    · rfl
    · cases e
  exact ⟨H0, ps, F1, ρ, S1, d, ρ', env.grow g1 st1, hv.rp hd, e, fun σ' _ _ en => (k F1 H1 (Grow.refl g1.fh) st1) σ' ps F1 H1 en bs1⟩
/-- a, b = x, y -/
theorem z_par {i j : Nat} {x y : Str} {α : DE → M (List D)} {px py pt : Pos} {kt k2 pt2} (hc : X.calm = true) (hN : X.N.Nodup) (hi : X.N[i]? = some x) (hj : X.N[j]? = some y) (hij : i ≠ j)
    (hx : X.env.scope.names.lookup x = some .local) (hy : X.env.scope.names.lookup y = some .local) (ha : PA X [a, b] (tDA X.K mg E α))
    (hw : swappedStores [.Tuple [.Name x px, .Name y py] kt pt] (.Tuple [a, b] k2 pt2) X.env = pure (some [x, y]))
    (hs : swapsWithSole [.Tuple [.Name x px, .Name y py] kt pt] (.Tuple [a, b] k2 pt2) pos.line X.env = pure false := by rfl) :
    PS X (.Assign [.Tuple [.Name x px, .Name y py] kt pt] (.Tuple [a, b] k2 pt2) pos) (tS X.K mg E (sP i j α)) := ps_imp (ps_par hc hN hi hj hij hx hy ha hw hs) fun D σ H => by
  rintro ⟨F0, H0, ps0, ps, F, ρ, S, env, bs, h⟩
  refine ⟨H0, ps, F, ρ, S, env, (FlR.run env.st bs h).imp fun ds S1 F1 H1 g1 st1 h1 vs hv => ?_⟩
  split at h1
  · split at h1
    · rename_i hd
      rw [Bool.and_eq_true] at hd
      cases hv with
      | cons a r =>
        cases r with
        | cons b r =>
          cases r
          exact ⟨_, _, rfl, h1 _ ps F1 H1 (((env.grow g1 st1).set (a.rp hd.1) i).set (b.rp hd.2) j) (bs.grow env.st g1)⟩
    · exact h1.elim
  · exact h1.elim
theorem z_expr (he : PE X e (tD X.K mg E φ)) (hs : swapsWith e none pos.line X.env = pure false := by rfl) : PS X (.Expr e pos) (tS X.K mg E (sE φ)) := ps_imp (ps_expr he hs) fun D σ H => by
  rintro ⟨F0, H0, ps0, ps, F, ρ, S, env, bs, h⟩
  exact ⟨H0, ps, F, ρ, S, env, (FlR.run env.st bs h).imp fun d S1 F1 H1 g1 st1 h1 v hv => h1 σ ps F1 H1 (env.grow g1 st1) (bs.grow env.st g1)⟩
theorem z_ret (he : PE X e (tD X.K mg E φ)) : PS X (.Return (some e) pos) (tS X.K mg E (sR φ)) := ps_imp (ps_ret he) fun D σ H => by
  rintro ⟨F0, H0, ps0, ps, F, ρ, S, env, bs, h⟩
  refine ⟨H0, ps, F, ρ, S, env, (FlR.run env.st bs h).imp fun d S1 F1 H1 g1 st1 h1 v hv => ?_⟩
  split at h1
  · rename_i hd
    exact h1 v ps F1 H1 g1.fh st1 (bs.grow env.st g1) (hv.rp hd)
  · exact h1.elim
theorem z_retL (he : PE X e (tDL X.K mg E l)) : PS X (.Return (some e) pos) (tS X.K mg E (sRL l)) := ps_imp (ps_ret he) fun D σ H => by
  rintro ⟨F0, H0, ps0, ps, F, ρ, S, env, bs, h⟩
  exact ⟨H0, ps, F, ρ, S, env, (FlR.run env.st bs h).imp fun d S1 F1 H1 g1 st1 h1 p vs hp r => h1 p vs ps F1 H1 g1.fh st1 (bs.grow env.st g1) hp r⟩
/-- a changed list becomes a kept one: nothing happens -/
theorem z_frz {i : Nat} (h : PS X st (tS X.K mg E s)) : PS X st (tS X.K mg E (sFz i s)) := ps_imp h fun D σ H => by
  rintro ⟨F0, H0, ps0, ps, F, ρ, S, env, bs, h⟩
  unfold sFz frz at h
  cases hj : ρ[i]? with
  | none => rw [hj] at h; exact ⟨F0, H0, ps0, ps, F, ρ, S, env, bs, h⟩
  | some o =>
    rw [hj] at h
    cases o with
    | none => exact ⟨F0, H0, ps0, ps, F, ρ, S, env, bs, h⟩
    | some d =>
      cases d <;> first | exact ⟨F0, H0, ps0, ps, F, ρ, S, env, bs, h⟩ | skip
      rename_i xs
      obtain ⟨v, e1, e2⟩ := env.sl i _ hj
      rcases e2 with e2 | ⟨ys, e, q, ws, e', m1, m2, m3, m4, m5⟩ | ⟨e, _⟩
      · cases e2
      · cases e
        subst e'
        have ff : Ex F (upd F q (.lst ws)) := Ex.new m1
        have fh : Ex (upd F q (.lst ws)) H := fun a u h => by
          by_cases z : a = q
          · subst z; rw [upd_same] at h; cases h; exact m2
          · rw [upd_ne z] at h; exact env.fh a u h
        have env2 : En X.K mg H0 ps (upd F q (.lst ws)) H σ (ρ.set i (some (.lst xs))) S := by
          refine ⟨fh, ⟨fun p hp => ?_, env.st.2⟩, by rw [List.length_set]; exact env.len, fun j d hd => ?_, fun j k ys zs v hjk h1 h2 h3 => ?_⟩
          · obtain ⟨a1, vs, a2, a3⟩ := env.st.1 p hp
            exact ⟨by rw [upd_ne (fun z => m5 (by rw [← z, hp]))]; exact a1, vs, a2, a3.mono ff⟩
          · by_cases z : i = j
            · subst z
              have hl : i < ρ.length := (List.getElem?_eq_some_iff.mp hj).1
              rw [List.getElem?_set_self hl] at hd; cases hd
              exact ⟨_, e1, .inl (.lst upd_same (m3.mono ff))⟩
            · rw [List.getElem?_set_ne z] at hd
              obtain ⟨w, a1, a2⟩ := env.sl j d hd
              refine ⟨w, a1, ?_⟩
              rcases a2 with a2 | ⟨ys, e, p, us, e', b1, b2, b3, b4, b5⟩ | a2
              · exact .inl (a2.mono ff)
              · subst e
                subst e'
                have : p ≠ q := fun z2 => env.mne i j _ _ _ z hj e1 hd (by rw [z2] at a1; exact a1)
                exact .inr (.inl ⟨ys, rfl, p, us, rfl, by rw [upd_ne this]; exact b1, b2, b3.mono ff, b4, b5⟩)
              · exact .inr (.inr a2)
          · have nj : i ≠ j := fun z => by
              subst z
              rw [List.getElem?_set_self (List.getElem?_eq_some_iff.mp hj).1] at h1; cases h1
            have nk : i ≠ k := fun z => by
              subst z
              rw [List.getElem?_set_self (List.getElem?_eq_some_iff.mp hj).1] at h3; cases h3
            rw [List.getElem?_set_ne nj] at h1
            rw [List.getElem?_set_ne nk] at h3
            exact env.mne j k ys zs v hjk h1 h2 h3
        refine ⟨F0, H0, ps0, ps, _, _, S, env2, ⟨bs.ff.trans ff, fun a ha => ?_, bs.hh, bs.psn⟩, h⟩
        rw [upd_ne (fun z => ha (by rw [z]; exact m4))]
        exact bs.fr a ha
      · cases e
theorem En.reMu {K : PySem.W.Frag} {H0 : Hp} {ps : Option Addr} {F H : Hp} {σ : L2.St} {ρ : DE} {S : List D} {i : Nat} {p : Addr} {ws : List V} {xs ys : List D} (env : En K mg H0 ps F H σ ρ S) (hi : ρ[i]? = some (some (.mu xs))) (hs : σ[i]? = some (some (.ref p)))
    (m1 : F p = none) (m4 : H0 p = none) (m5 : some p ≠ ps) (r : Rps K mg F ws ys) : En K mg H0 ps F (upd H p (.lst ws)) σ (ρ.set i (some (.mu ys))) S := by
  refine ⟨fun a u h => by rw [upd_ne (ne_of_none h m1)]; exact env.fh a u h, ⟨fun q hq => ?_, env.st.2⟩, by rw [List.length_set]; exact env.len, fun j d hd => ?_, fun j k us zs v hjk h1 h2 h3 => ?_⟩
  · obtain ⟨a1, vs, a2, a3⟩ := env.st.1 q hq
    exact ⟨a1, vs, by rw [upd_ne (fun z => m5 (by rw [← z, hq]))]; exact a2, a3⟩
  · by_cases z : i = j
    · subst z
      rw [List.getElem?_set_self (List.getElem?_eq_some_iff.mp hi).1] at hd; cases hd
      exact ⟨_, hs, .inr (.inl ⟨ys, rfl, p, ws, rfl, m1, upd_same, r, m4, m5⟩)⟩
    · rw [List.getElem?_set_ne z] at hd
      obtain ⟨w, a1, a2⟩ := env.sl j d hd
      refine ⟨w, a1, ?_⟩
      rcases a2 with a2 | ⟨us, e, q, ts, e', b1, b2, b3, b4, b5⟩ | a2
      · exact .inl a2
      · subst e
        subst e'
        have : q ≠ p := fun z2 => env.mne i j _ _ _ z hi hs hd (by rw [z2] at a1; exact a1)
        exact .inr (.inl ⟨us, rfl, q, ts, rfl, b1, by rw [upd_ne this]; exact b2, b3, b4, b5⟩)
      · exact .inr (.inr a2)
  · have back : ∀ (j : Nat) (us : List DL.D), (ρ.set i (some (.mu ys)))[j]? = some (some (.mu us)) → ∃ us', ρ[j]? = some (some (.mu us')) := fun j us h => by
      by_cases z : i = j
      · subst z; exact ⟨_, hi⟩
      · rw [List.getElem?_set_ne z] at h; exact ⟨_, h⟩
    obtain ⟨u1, q1⟩ := back j us h1
    obtain ⟨u2, q2⟩ := back k zs h3
    exact env.mne j k u1 u2 v hjk q1 h2 q2
theorem En.mu {K : PySem.W.Frag} {H0 : Hp} {ps : Option Addr} {F H : Hp} {σ : L2.St} {ρ : DE} {S : List D} {i : Nat} {xs : List D} (env : En K mg H0 ps F H σ ρ S) (h : (ρ[i]?).join = some (.mu xs)) :
    ρ[i]? = some (some (.mu xs)) ∧ ∃ p vs, σ[i]? = some (some (.ref p)) ∧ F p = none ∧ H p = some (.lst vs) ∧ Rps K mg F vs xs ∧ H0 p = none ∧ some p ≠ ps := by
  cases hj : ρ[i]? with
  | none => rw [hj] at h; cases h
  | some o =>
    rw [hj] at h
    cases o with
    | none => cases h
    | some d =>
      cases h
      obtain ⟨v, e1, e2⟩ := env.sl i _ hj
      rcases e2 with e2 | ⟨ys, e, q, ws, e', m⟩ | ⟨e, _⟩
      · cases e2
      · cases e; subst e'; exact ⟨rfl, q, ws, e1, m⟩
      · cases e
/-- x.append(e) -/
theorem z_app {i : Nat} (h : PE X e (tBM X.K "list" rAppend (tVar i) (tCons (tD X.K mg E φ) tNil))) (hs : swapsWith e none pos.line X.env = pure false := by rfl) :
    PS X (.Expr e pos) (tS X.K mg E (sAp i φ)) := ps_imp (ps_expr h hs) fun D σ H => by
  rintro ⟨F0, H0, ps0, ps, F, ρ, S, env, bs, h⟩
  unfold sAp at h
  cases hm : (ρ[i]?).join with
  | none => rw [hm] at h; exact h.elim
  | some dd =>
    rw [hm] at h
    cases dd <;> first | exact h.elim | skip
    rename_i xs
    obtain ⟨hi, p, vs, e1, m1, m2, m3, m4, m5⟩ := env.mu hm
    refine ⟨_, e1, .inl ⟨rfl, vs, sq_of m2⟩, H0, ps, F, ρ, S, env, (FlR.run env.st bs h).imp fun d S1 F1 H1 g1 st1 h1 v hv => ?_⟩
    split at h1
    · rename_i hc
      rw [Bool.and_eq_true, decide_eq_true_eq] at hc
      have env1 := env.grow g1 st1
      have bs1 := bs.grow env.st g1
      have q1 : F1 p = none := by rw [g1.fr p (by rw [m2]; intro q; cases q)]; exact m1
      have r1 : Rps X.K mg F1 (vs ++ [v]) (xs ++ [d]) := (m3.mono g1.ff).append (.cons (hv.rp hc.1) .nil)
      exact ⟨p, vs, v, rfl, rfl, g1.hh p _ m2 m5, sz_lt (by rw [m3.length]; exact hc.2), h1 _ ps F1 _ (env1.reMu hi e1 q1 m4 m5 r1) (bs1.beside m4)⟩
    · exact h1.elim
/-- x[k] = e -/
theorem z_sub {i : Nat} {tg : Expr} {κ : DE → M DL.D} (he : PE X e (tD X.K mg E φ)) (hg : PG X tg (gSub (tVar i) (tD X.K mg E κ) rSetL))
    (hs : swapsWithSole [tg] e pos.line X.env = pure false := by rfl) (hw : swappedStores [tg] e X.env = pure none := by rfl) (h1 : (assignEach [tg] X.env).map (·.2) = [assign tg X.env] := by rfl) :
    PS X (.Assign [tg] e pos) (tS X.K mg E (sSt i κ φ)) := ps_imp (ps_asg he hg hs hw h1) fun D σ H => by
  rintro ⟨F0, H0, ps0, ps, F, ρ, S, env, bs, h⟩
  refine ⟨H0, ps, F, ρ, S, env, (FlR.run env.st bs h).imp fun d S1 F1 H1 g1 st1 h1 v hv => ?_⟩
  have env1 := env.grow g1 st1
  have bs1 := bs.grow env.st g1
  cases hm : (ρ[i]?).join with
  | none => rw [hm] at h1; exact h1.elim
  | some dd =>
    rw [hm] at h1
    cases dd <;> first | exact h1.elim | skip
    · rename_i xs
      obtain ⟨hi, p, vs, e1, m1, m2, m3, m4, m5⟩ := env1.mu hm
      refine ⟨_, e1, H0, ps, F1, ρ, S1, env1, (FlR.run st1 bs1 h1).imp fun y S2 F2 H2 g2 st2 h2 u hu => ?_⟩
      have env2 := env1.grow g2 st2
      have bs2 := bs1.grow st1 g2
      split at h2
      · rename_i z
        have hu := hu.rp rfl
        cases hu
        split at h2
        · rename_i hdd
          obtain ⟨j, ej, k2⟩ := (FlR.run st2 bs2 h2).opt
          have k2 := k2 F2 H2 (Grow.refl g2.fh) st2
          have rv := (hv.mono g2.ff).rp hdd
          have q1 : F2 p = none := by rw [g2.fr p (by rw [m2]; intro q; cases q)]; exact m1
          exact ⟨p, vs, z, j, rfl, rfl, g2.hh p _ m2 m5, by rw [m3.length]; exact ej, k2 _ ps F2 _ (env2.reMu hi e1 q1 m4 m5 ((m3.mono g2.ff).set rv j)) (bs2.beside m4)⟩
        · exact h2.elim
      · exact h2.elim
    · have hi : ρ[i]? = some (some .st) := by
        cases hj : ρ[i]? with
        | none => rw [hj] at hm; cases hm
        | some o =>
          rw [hj] at hm
          cases o with
          | none => cases hm
          | some d => cases hm; rfl
      obtain ⟨w, e1, e2⟩ := env1.sl i _ hi
      have hst : ∃ p, ps = some p ∧ w = .ref p := by
        rcases e2 with e2 | ⟨_, e2, _⟩ | ⟨_, e2⟩
        · cases e2
        · cases e2
        · exact e2
      obtain ⟨p, hp, rfl⟩ := hst
      refine ⟨_, e1, H0, ps, F1, ρ, S1, env1, (FlR.run st1 bs1 h1).imp fun y S2 F2 H2 g2 st2 h2 u hu => ?_⟩
      have env2 := env1.grow g2 st2
      have bs2 := bs1.grow st1 g2
      split at h2
      · rename_i z
        have hu := hu.rp rfl
        cases hu
        split at h2
        · rename_i hdd
          have rv := (hv.mono g2.ff).rp hdd
          obtain ⟨n1, vs, n2, n3⟩ := st2.1 p hp
          dsimp only at h2
          cases ej : ixN S2.length z with
          | none => rw [ej] at h2; exact h2.elim
          | some j =>
            rw [ej] at h2
            refine ⟨p, vs, z, j, rfl, rfl, n2, by rw [n3.length]; exact ej, h2 _ ps F2 _ ?_ ?_⟩
            · refine ⟨fun a u h => by rw [upd_ne (ne_of_none h n1)]; exact env2.fh a u h, ⟨fun q hq => ?_, fun q => by rw [q] at hp; cases hp⟩, env2.len, fun j' d' hd' => ?_, env2.mne⟩
              · have : q = p := by rw [hp] at hq; exact (Option.some.inj hq).symm
                subst this
                exact ⟨n1, _, upd_same, n3.set rv j⟩
              · obtain ⟨w, a1, a2⟩ := env2.sl j' d' hd'
                refine ⟨w, a1, ?_⟩
                rcases a2 with a2 | ⟨us, e, q, ts, e', b1, b2, b3, b4, b5⟩ | a2
                · exact .inl a2
                · exact .inr (.inl ⟨us, e, q, ts, e', b1, by rw [upd_ne (fun z2 => b5 (by rw [z2, hp]))]; exact b2, b3, b4, b5⟩)
                · exact .inr (.inr a2)
            · refine ⟨bs2.ff, bs2.fr, fun a u ha n => ?_, bs2.psn⟩
              have : a ≠ p := fun z2 => by
                rcases bs2.psn with e | ⟨_, e⟩
                · exact n (by rw [z2, ← hp, e])
                · rw [z2, e p hp] at ha; cases ha
              rw [upd_ne this]; exact bs2.hh a u ha n
        · exact h2.elim
      · exact h2.elim
/-- for -/
theorem forD_cons {γ : DL.D → DE → Option DE} {b : DS} {x : DL.D} {xs : List DL.D} {ρ : DE} : forD γ b (x :: xs) ρ = bnd (opt (γ x ρ)) fun ρ1 => bnd (b ρ1) fun f => match f with
    | .nx ρ2 => forD γ b xs ρ2
    | .ct ρ2 => forD γ b xs ρ2
    | .bk ρ2 => ret (.nx ρ2)
    | f => ret f := rfl
theorem z_for {tg iter : Expr} {body : List Stmt} {it : DE → M (List DL.D)} {sl : List Nat} {γ : DL.D → DE → Option DE} (hp : PassesOwn (model X.prog X.w) X.A X.env X.xe) (hc : X.calm = true) (hi : PI X tg iter (tDI X.K mg E it)) (hg : PG X tg (tDG X.K mg sl γ)) (hb : PSs X body (tS X.K mg E s))
    (hs : ∀ x, foldedSetIterable iter X.env x = pure x := by intro _; rfl) : PS X (.For tg iter body [] pos) (tS X.K mg E (sFor it γ s)) := ps_imp (ps_for hp hc hi hg hb hs) fun D σ H => by
  rintro ⟨F0, H0, ps0, ps, F, ρ, S, env, bs, h⟩
  refine ⟨H0, ps, F, ρ, S, env, (FlR.run env.st bs h).imp fun xs S1 F1 H1 g1 st1 h1 J hJ => ?_⟩
  have env1 := env.grow g1 st1
  have bs1 := bs.grow env.st g1
  split at h1
  · -- from here on the ground is F1
    refine ⟨fun i m σ H => m + i = xs.length ∧ ∃ ps F ρ S, En X.K mg H0 ps F H σ ρ S ∧ Base F1 H0 ps0 ps F H ∧ FlR X.K mg E F1 H0 ps0 D (forD γ s (xs.drop i) ρ S), ⟨xs.length, by omega, ps, F1, ρ, S1, env1, bs1.here, by rw [List.drop_zero]; exact h1.base bs1⟩, ?_⟩
    rintro i m σ2 H2 ⟨hm, ps2, F2, ρ2, S2, env2, bs2, h2⟩
    by_cases hi : i < xs.length
    · right
      refine ⟨hJ.go F2 _ i bs2.ff env2.fh hi, fun σ H => ∃ m', m' < m ∧ (m' + (i + 1) = xs.length ∧ ∃ ps F ρ S, En X.K mg H0 ps F H σ ρ S ∧ Base F1 H0 ps0 ps F H ∧ FlR X.K mg E F1 H0 ps0 D (forD γ s (xs.drop (i + 1)) ρ S)), fun _ _ w => w, fun x H' hy => ?_⟩
      obtain ⟨F3, hst, rx⟩ := hJ.yld F2 _ H' i x xs[i] bs2.ff env2.fh (List.getElem?_eq_getElem hi) hy
      have g3 : Grow ps2 F2 H2 F3 H' ∧ StR X.K mg ps2 F3 H' S2 := by
        rcases hst with ⟨rfl, rfl⟩ | ⟨T, o, hT, rfl, rfl⟩
        · exact ⟨Grow.refl env2.fh, env2.st⟩
        · exact ⟨Grow.new env2.fh hT, env2.st.new env2.fh hT⟩
      have env3 := env2.grow g3.1 g3.2
      have bs3 := bs2.grow env2.st g3.1
      rw [List.drop_eq_getElem_cons hi, forD_cons] at h2
      obtain ⟨ρ3, e3, h3⟩ := (FlR.run env3.st bs3 h2).opt
      have h3 := h3 F3 H' (Grow.refl env3.fh) env3.st
      refine ⟨H0, ps2, F3, ρ2, S2, xs[i], ρ3, env3, rx, e3, fun σ' _ _ env4 => ?_⟩
      refine ⟨F1, H0, ps0, ps2, F3, ρ3, S2, env4, bs3, ?_⟩
      unfold DL.bnd at h3
      cases hbd : s ρ3 S2 with
      | bad => rw [hbd] at h3; exact h3
      | exc c fs S' => rw [hbd] at h3; exact h3
      | ok f S' =>
        rw [hbd] at h3
        cases f with
        | nx ρ' => exact fun σ' ps' F' H' en bb => ⟨m - 1, by omega, by omega, ps', F', ρ', S', en, bb, h3⟩
        | ct ρ' => exact fun σ' ps' F' H' en bb => ⟨m - 1, by omega, by omega, ps', F', ρ', S', en, bb, h3⟩
        | bk ρ' => exact h3
        | rt d => exact h3
        | rl d => exact h3
    · left
      have hi : i = xs.length := by omega
      subst hi
      rw [List.drop_length] at h2
      exact ⟨hJ.stop F2 _ bs2.ff env2.fh, h2 σ2 ps2 F2 H2 env2 bs2⟩
  · exact h1.elim
/-- while -/
theorem z_while {body : List Stmt} (hp : PassesOwn (model X.prog X.w) X.A X.env X.xe) (hc : PT X c (tDT X.K mg E τ)) (hb : PSs X body (tS X.K mg E s)) : PS X (.While c body [] pos) (tS X.K mg E (sWh τ s)) := ps_imp (ps_while hp hc hb) fun D σ H => by
  rintro ⟨F0, H0, ps0, ps, F, ρ, S, env, bs, h⟩
  have hn : ∃ n, FlR X.K mg E F0 H0 ps0 D (whN τ s n ρ S) := by
    unfold sWh at h
    split at h
    · exact ⟨_, h⟩
    · exact h.elim
  obtain ⟨n, h⟩ := hn
  refine ⟨fun m σ H => ∃ ps F ρ S, En X.K mg H0 ps F H σ ρ S ∧ Base F0 H0 ps0 ps F H ∧ FlR X.K mg E F0 H0 ps0 D (whN τ s m ρ S), ⟨n, ps, F, ρ, S, env, bs, h⟩, ?_⟩
  rintro m σ2 H2 ⟨ps2, F2, ρ2, S2, env2, bs2, h2⟩
  cases m with
  | zero => exact h2.elim
  | succ m =>
    unfold whN at h2
    refine ⟨H0, ps2, F2, ρ2, S2, env2, (FlR.run env2.st bs2 h2).imp fun x S3 F3 H3 g3 st3 h3 => ?_⟩
    have env3 := env2.grow g3 st3
    have bs3 := bs2.grow env2.st g3
    cases x with
    | false => exact h3 σ2 ps2 F3 H3 env3 bs3
    | true =>
      rw [if_pos rfl] at h3
      dsimp only
      rw [if_pos rfl]
      refine ⟨fun σ H => ∃ m', m' < m + 1 ∧ ∃ ps F ρ S, En X.K mg H0 ps F H σ ρ S ∧ Base F0 H0 ps0 ps F H ∧ FlR X.K mg E F0 H0 ps0 D (whN τ s m' ρ S), fun _ _ w => w, ?_⟩
      refine ⟨F0, H0, ps0, ps2, F3, ρ2, S3, env3, bs3, ?_⟩
      unfold DL.bnd at h3
      cases hbd : s ρ2 S3 with
      | bad => rw [hbd] at h3; exact h3
      | exc c fs S' => rw [hbd] at h3; exact h3
      | ok f S' =>
        rw [hbd] at h3
        cases f with
        | nx ρ' => exact fun σ' ps' F' H' en bb => ⟨m, by omega, ps', F', ρ', S', en, bb, h3⟩
        | ct ρ' => exact fun σ' ps' F' H' en bb => ⟨m, by omega, ps', F', ρ', S', en, bb, h3⟩
        | bk ρ' => exact h3
        | rt d => exact h3
        | rl d => exact h3
end

/-! ### defs -/
section
variable (K : PySem.W.Frag) (mg : Str → Option Value)
inductive ArgR (ps : Option Addr) (F : Hp) : List V → List D → Prop
  | nil : ArgR ps F [] []
  | cons {v : V} {vs : List V} {d : D} {ds : List D} : (Rp K mg F v d ∨ (d = .st ∧ ∃ p, ps = some p ∧ v = .ref p)) → ArgR ps F vs ds → ArgR ps F (v :: vs) (d :: ds)
/-- a def that hands back a value -/
def spD (np : Nat) (m : List D → M D) : Sp := fun vs H Q E => vs.length = np ∧ ∃ ps F S ds, Ex F H ∧ StR K mg ps F H S ∧ ArgR K mg ps F vs ds ∧ Ps K mg E ps F H (m ds S) fun d _ F' H' => ∀ v, Rp K mg F' v d → Q v H'
/-- .. a new list -/
def spL (np : Nat) (m : List D → M (List D)) : Sp := fun vs H Q E => vs.length = np ∧ ∃ ps F S ds, Ex F H ∧ StR K mg ps F H S ∧ ArgR K mg ps F vs ds ∧ Ps K mg E ps F H (m ds S) fun xs _ F' H' => ∀ p vs, H' p = none → Rps K mg F' vs xs → Q (.ref p) (upd H' p (.lst vs))
end
section
variable {K : PySem.W.Frag} {mg : Str → Option Value} {P : Program} {w : World} {base : Heap} {ps0 : Option Addr} {F H : Hp} {S : List D}
theorem ArgR.length : ∀ {vs : List V} {ds : List D}, ArgR K mg ps0 F vs ds → vs.length = ds.length
  | _, _, .nil => rfl
  | _, _, .cons _ r => by rw [List.length_cons, List.length_cons, ArgR.length r]
theorem ArgR.get : ∀ {vs : List V} {ds : List D} {i : Nat} {d : D}, ArgR K mg ps0 F vs ds → ds[i]? = some d → ∃ v, vs[i]? = some v ∧ (Rp K mg F v d ∨ (d = .st ∧ ∃ p, ps0 = some p ∧ v = .ref p))
  | _, _, i, _, .nil, h => by simp at h
  | _, _, 0, _, .cons a r, h => by simp at h; subst h; exact ⟨_, rfl, a⟩
  | _, _, i + 1, _, .cons a r, h => by
    obtain ⟨v, h1, h2⟩ := ArgR.get (i := i) r (by simpa using h)
    exact ⟨v, by simpa using h1, h2⟩
theorem start_get {N : List Str} {vs : List V} {ds : List D} (hl : vs.length = ds.length) (i : Nat) (d : D) (h : (startD N.length ds)[i]? = some (some d)) : ds[i]? = some d ∧ ∀ v, vs[i]? = some v → (L2.start N vs)[i]? = some (some v) := by
  unfold startD at h
  by_cases hi : i < ds.length
  · rw [List.getElem?_append_left (by rw [List.length_map]; exact hi), List.getElem?_map] at h
    cases hd : ds[i]? with
    | none => rw [hd] at h; cases h
    | some e =>
      rw [hd] at h
      injection h with h; injection h with h
      subst h
      refine ⟨rfl, fun v hv => ?_⟩
      unfold L2.start
      rw [List.getElem?_append_left (by rw [List.length_map, hl]; exact hi), List.getElem?_map, hv]; rfl
  · rw [List.getElem?_append_right (by rw [List.length_map]; omega)] at h
    have := List.mem_of_getElem? h
    have := List.eq_of_mem_replicate this
    cases this
theorem en_start {N : List Str} {vs : List V} {ds : List D} (e : Ex F H) (st : StR K mg ps0 F H S) (r : ArgR K mg ps0 F vs ds) : En K mg H ps0 F H (L2.start N vs) (startD N.length ds) S where
  fh := e
  st := st
  len := by unfold L2.start startD; simp [r.length]
  sl i d h := by
    obtain ⟨h1, h2⟩ := start_get r.length i d h
    obtain ⟨v, h3, h4⟩ := r.get h1
    refine ⟨v, h2 v h3, ?_⟩
    rcases h4 with h4 | h4
    · exact .inl h4
    · exact .inr (.inr h4)
  mne i j xs ys v hij h1 h2 h3 := by
    obtain ⟨q1, _⟩ := start_get r.length i _ h1
    obtain ⟨v', _, q2⟩ := r.get q1
    rcases q2 with q2 | ⟨q2, _⟩
    · cases q2
    · cases q2
theorem Base.toGrow {ps : Option Addr} {F' H' : Hp} (b : Base F H ps0 ps F' H') (e : Ex F' H') : Grow ps0 F H F' H' := ⟨b.ff, e, b.fr, b.hh⟩
theorem StR.down {ps : Option Addr} {F' H' : Hp} {S' : List D} (b : Base F H ps0 ps F' H') (st : StR K mg ps F' H' S') (hs : ps0 = none → S' = [.st]) : StR K mg ps0 F' H' S' := by
  refine ⟨fun p hp => ?_, hs⟩
  rcases b.psn with e | ⟨e, _⟩
  · exact st.1 p (by rw [e]; exact hp)
  · rw [e] at hp; cases hp
theorem StR.stq (st : StR K mg ps0 F H S) (h : S = [.st]) : ps0 = none := by
  cases hq : ps0 with
  | none => rfl
  | some q =>
    obtain ⟨_, ws, _, r⟩ := st.1 q hq
    subst h
    cases r with
    | cons a r => cases a
theorem back_down {ps : Option Addr} {F' H' : Hp} {S' : List D} (st : StR K mg ps0 F H S) (b : Base F H ps0 ps F' H') (st' : StR K mg ps F' H' S') : StR K mg ps0 F' H' (back S S') := by
  unfold back
  split
  · have e := st.stq rfl
    exact ⟨fun p hp => by (rw [e] at hp; cases hp), fun _ => rfl⟩
  · rename_i hn
    refine st'.down b fun e => absurd (st.2 e) (fun z => hn z)
/-- THE RULE for a def that raises nothing and hands back a value -/
theorem def_ok {x qual : Str} {st : Stmt} {f : Addr} {fd : FuncData} {N pn : List Str} {k : Nat} {b : DS} (Fn : Fun K x qual st f fd) (Sc : FnScope N pn (defScope st))
    (hb : ∀ (cdv : Value) (A : Around) (outer : List Env) (s : Shared) (H : Hp) (E : XK), Room k (A.deeper (envOfC qual (defScope st) s.heap.objs.size f cdv)) →
      PSs (cxOf CX0 P w K mg base N qual (defScope st) f cdv A outer s H E).nox (defBody st) (tS K mg (fun _ _ _ => False) b)) : FnOk P w K mg base CX0 (k + 1) f fd pn (spD K mg pn.length (runP N.length pn.length b)) := by
  refine Fn.ok Sc (fun vs H Q E h => h.1) (fun cdv A outer s H vs Q E hr h => ?_)
  obtain ⟨hl, ps, F, S, ds, e, st, r, h⟩ := h
  refine ⟨_, hb cdv A outer s H E hr, F, H, ps, ps, F, startD N.length ds, S, en_start e st r, Base.refl e, ?_⟩
  unfold runP nox run own at h
  have hn : ds.length = pn.length := by rw [← r.length]; exact hl
  rw [if_pos hn] at h
  unfold DL.bnd at h
  cases hbd : b (startD N.length ds) S with
  | bad => rw [hbd] at h; exact h.elim
  | exc c fs S' => rw [hbd] at h; exact h.elim
  | ok f S' =>
    rw [hbd] at h
    cases f with
    | nx ρ' => exact fun σ' ps' F' H' en bb => h F' H' (bb.toGrow en.fh) (back_down st bb en.st) .non .non
    | rt d => exact fun v ps' F' H' e' st' bb rv => h F' H' (bb.toGrow e') (back_down st bb st') v rv
    | bk _ => exact h.elim
    | ct _ => exact h.elim
    | rl _ => exact h.elim
theorem defL_ok {x qual : Str} {st : Stmt} {f : Addr} {fd : FuncData} {N pn : List Str} {k : Nat} {b : DS} (Fn : Fun K x qual st f fd) (Sc : FnScope N pn (defScope st))
    (hb : ∀ (cdv : Value) (A : Around) (outer : List Env) (s : Shared) (H : Hp) (E : XK), Room k (A.deeper (envOfC qual (defScope st) s.heap.objs.size f cdv)) →
      PSs (cxOf CX0 P w K mg base N qual (defScope st) f cdv A outer s H E).nox (defBody st) (tS K mg (fun _ _ _ => False) b)) : FnOk P w K mg base CX0 (k + 1) f fd pn (spL K mg pn.length (runLP N.length pn.length b)) := by
  refine Fn.ok Sc (fun vs H Q E h => h.1) (fun cdv A outer s H vs Q E hr h => ?_)
  obtain ⟨hl, ps, F, S, ds, e, st, r, h⟩ := h
  refine ⟨_, hb cdv A outer s H E hr, F, H, ps, ps, F, startD N.length ds, S, en_start e st r, Base.refl e, ?_⟩
  unfold runLP nox runL own at h
  have hn : ds.length = pn.length := by rw [← r.length]; exact hl
  rw [if_pos hn] at h
  unfold DL.bnd at h
  cases hbd : b (startD N.length ds) S with
  | bad => rw [hbd] at h; exact h.elim
  | exc c fs S' => rw [hbd] at h; exact h.elim
  | ok f S' =>
    rw [hbd] at h
    cases f with
    | rl xs => exact fun p vs ps' F' H' e' st' bb hp rv => h F' H' (bb.toGrow e') (back_down st bb st') p vs hp rv
    | nx _ => exact h.elim
    | rt _ => exact h.elim
    | bk _ => exact h.elim
    | ct _ => exact h.elim
end
section
variable {K : PySem.W.Frag} {mg : Str → Option Value} {P : Program} {w : World} {base : Heap}
theorem def_ok' {x qual : Str} {st : Stmt} {f : Addr} {fd : FuncData} {N pn : List Str} {k n np : Nat} {b : DS} {m : List D → M D} (Fn : Fun K x qual st f fd) (Sc : FnScope N pn (defScope st)) (hn : N.length = n) (hp : pn.length = np) (hm : m = runP n np b)
    (hb : ∀ (cdv : Value) (A : Around) (outer : List Env) (s : Shared) (H : Hp) (E : XK), Room k (A.deeper (envOfC qual (defScope st) s.heap.objs.size f cdv)) →
      PSs (cxOf CX0 P w K mg base N qual (defScope st) f cdv A outer s H E).nox (defBody st) (tS K mg (fun _ _ _ => False) b)) : FnOk P w K mg base CX0 (k + 1) f fd pn (spD K mg np m) := by
  subst hn hp hm
  exact def_ok Fn Sc hb
theorem defL_ok' {x qual : Str} {st : Stmt} {f : Addr} {fd : FuncData} {N pn : List Str} {k n np : Nat} {b : DS} {m : List D → M (List D)} (Fn : Fun K x qual st f fd) (Sc : FnScope N pn (defScope st)) (hn : N.length = n) (hp : pn.length = np) (hm : m = runLP n np b)
    (hb : ∀ (cdv : Value) (A : Around) (outer : List Env) (s : Shared) (H : Hp) (E : XK), Room k (A.deeper (envOfC qual (defScope st) s.heap.objs.size f cdv)) →
      PSs (cxOf CX0 P w K mg base N qual (defScope st) f cdv A outer s H E).nox (defBody st) (tS K mg (fun _ _ _ => False) b)) : FnOk P w K mg base CX0 (k + 1) f fd pn (spL K mg np m) := by
  subst hn hp hm
  exact defL_ok Fn Sc hb
end
section
variable {X : Cx} {mg : Str → Option Value} {E : XK} {e : Expr} {es : List Expr} {pos : Pos}
theorem VRs.arg {K : PySem.W.Frag} {ps : Option Addr} {σ : L2.St} {ρ : DE} {F : Hp} : ∀ {vs : List V} {ds : List D}, VRs K mg ps σ ρ F vs ds → (∀ d ∈ ds, ∀ xs, d ≠ D.mu xs) → ArgR K mg ps F vs ds
  | _, _, .nil, _ => .nil
  | _, _, .cons a r, h => .cons (by
      rcases a with a | ⟨i, xs, e, _⟩ | a
      · exact .inl a
      · exact absurd e (h _ List.mem_cons_self xs)
      · exact .inr a) (VRs.arg r fun d hd => h d (List.mem_cons_of_mem _ hd))
theorem noMu_ok {ds : List D} (h : noMu ds = true) : ∀ d ∈ ds, ∀ xs, d ≠ D.mu xs := fun d hd xs e => by
  unfold noMu at h
  have := List.all_eq_true.mp h d hd
  rw [e] at this; cases this
/-- f(e, ..) -/
def LenOk {α : Type} (np : Nat) (m : List D → M α) : Prop := ∀ ds S, ds.length ≠ np → m ds S = .bad
theorem run_len {n np : Nat} {b : DS} : LenOk np (run n np b) := fun ds S h => by unfold run; rw [if_neg h]; rfl
theorem runP_len {n np : Nat} {b : DS} : LenOk np (runP n np b) := fun ds S h => by unfold runP nox; rw [run_len ds S h]
theorem runL_len {n np : Nat} {b : DS} : LenOk np (runL n np b) := fun ds S h => by unfold runL; rw [if_neg h]; rfl
theorem runLP_len {n np : Nat} {b : DS} : LenOk np (runLP n np b) := fun ds S h => by unfold runLP nox; rw [runL_len ds S h]
theorem VRs.length {K : PySem.W.Frag} {ps : Option Addr} {σ : L2.St} {ρ : DE} {F : Hp} : ∀ {vs : List V} {ds : List D}, VRs K mg ps σ ρ F vs ds → vs.length = ds.length
  | _, _, .nil => rfl
  | _, _, .cons _ r => by rw [List.length_cons, List.length_cons, VRs.length r]
theorem d_call {x : Str} {p : Pos} {k np : Nat} {f : Addr} {fd : FuncData} {pn : List Str} {m : List D → M D} {α : DE → M (List D)} (F : FnOk X.prog X.w X.K X.mg X.base CX0 k f fd pn (spD X.K mg np m)) (hl : LenOk np m) (hr : Room k X.A) (hg : Gl X x) (hm : X.mg x = some (.ref f)) (hk : PySem.W.keepIn X.K (.ref f) = true) (hb : Binds X.K fd pn [])
    (ha : PA X (e :: es) (tDA X.K mg E α)) (hdb : (x == ("__debug__" : Str)) = false := by decide) (he : starEach (e :: es) X.env = (false, eval e X.env) :: starEach es X.env := by rfl) (hpl : (backTo pos (starEach es X.env)).any (·.1) = false := by rfl) :
    PE X (.Call (.Name x p) (e :: es) [] pos) (tD X.K mg E (eFn m α)) := pe_imp (pe_call (E := E0) F hr hg hm hk hb .nil pass0 ha hdb he hpl) fun σ H Q => by
  rintro ⟨H0, ps, F, ρ, S, env, h⟩
  refine ⟨H0, ps, F, ρ, S, env, (Ps.bnd env.st h).imp fun ds S1 F1 H1 g1 st1 h1 vs hv => ?_⟩
  split at h1
  · rename_i hn
    have r := hv.arg (noMu_ok hn)
    rw [List.append_nil]
    unfold nox at h1
    have hlen : vs.length = np := by
      rw [hv.length]
      by_cases z : ds.length = np
      · exact z
      · rw [hl ds S1 z] at h1; exact h1.elim
    refine ⟨hlen, ps, F1, S1, ds, g1.fh, st1, r, ?_⟩
    cases hq : m ds S1 with
    | bad => rw [hq] at h1; exact h1
    | ok d S2 => rw [hq] at h1; exact fun F' H' g st v rv => h1 F' H' g st v (.inl rv)
    | exc c fs S2 => rw [hq] at h1; exact h1.elim
  · exact h1.elim
theorem l_call {x : Str} {p : Pos} {k np : Nat} {f : Addr} {fd : FuncData} {pn : List Str} {m : List D → M (List D)} {α : DE → M (List D)} (F : FnOk X.prog X.w X.K X.mg X.base CX0 k f fd pn (spL X.K mg np m)) (hl : LenOk np m) (hr : Room k X.A) (hg : Gl X x) (hm : X.mg x = some (.ref f)) (hk : PySem.W.keepIn X.K (.ref f) = true) (hb : Binds X.K fd pn [])
    (ha : PA X (e :: es) (tDA X.K mg E α)) (hdb : (x == ("__debug__" : Str)) = false := by decide) (he : starEach (e :: es) X.env = (false, eval e X.env) :: starEach es X.env := by rfl) (hpl : (backTo pos (starEach es X.env)).any (·.1) = false := by rfl) :
    PE X (.Call (.Name x p) (e :: es) [] pos) (tDL X.K mg E (lFn m α)) := pe_imp (pe_call (E := E0) F hr hg hm hk hb .nil pass0 ha hdb he hpl) fun σ H Q => by
  rintro ⟨H0, ps, F, ρ, S, env, h⟩
  refine ⟨H0, ps, F, ρ, S, env, (Ps.bnd env.st h).imp fun ds S1 F1 H1 g1 st1 h1 vs hv => ?_⟩
  split at h1
  · rename_i hn
    have r := hv.arg (noMu_ok hn)
    rw [List.append_nil]
    unfold nox at h1
    have hlen : vs.length = np := by
      rw [hv.length]
      by_cases z : ds.length = np
      · exact z
      · rw [hl ds S1 z] at h1; exact h1.elim
    refine ⟨hlen, ps, F1, S1, ds, g1.fh, st1, r, ?_⟩
    cases hq : m ds S1 with
    | bad => rw [hq] at h1; exact h1
    | ok d S2 => rw [hq] at h1; exact fun F' H' g st p vs hp rv => h1 F' H' g st p vs hp rv
    | exc c fs S2 => rw [hq] at h1; exact h1.elim
  · exact h1.elim
/-- a def as it stands: where, by which names, how it is called, what it keeps -/
def Cal (P : Program) (w : World) (K : PySem.W.Frag) (mg : Str → Option Value) (base : Heap) (x : Str) (k np : Nat) (m : List D → M D) : Prop :=
  LenOk np m ∧ ∃ f fd pn, mg x = some (.ref f) ∧ PySem.W.keepIn K (.ref f) = true ∧ Binds K fd pn [] ∧ FnOk P w K mg base CX0 k f fd pn (spD K mg np m)
def CalL (P : Program) (w : World) (K : PySem.W.Frag) (mg : Str → Option Value) (base : Heap) (x : Str) (k np : Nat) (m : List D → M (List D)) : Prop :=
  LenOk np m ∧ ∃ f fd pn, mg x = some (.ref f) ∧ PySem.W.keepIn K (.ref f) = true ∧ Binds K fd pn [] ∧ FnOk P w K mg base CX0 k f fd pn (spL K mg np m)
theorem d_cal {x : Str} {p : Pos} {k np : Nat} {m : List D → M D} {α : DE → M (List D)} (C : Cal X.prog X.w X.K X.mg X.base x k np m) (hr : Room k X.A) (hg : Gl X x)
    (ha : PA X (e :: es) (tDA X.K X.mg E α)) (hdb : (x == ("__debug__" : Str)) = false := by decide) (he : starEach (e :: es) X.env = (false, eval e X.env) :: starEach es X.env := by rfl) (hpl : (backTo pos (starEach es X.env)).any (·.1) = false := by rfl) :
    PE X (.Call (.Name x p) (e :: es) [] pos) (tD X.K X.mg E (eFn m α)) := by
  obtain ⟨hl, f, fd, pn, h1, h2, h3, h4⟩ := C
  exact d_call h4 hl hr hg h1 h2 h3 ha hdb he hpl
theorem l_cal {x : Str} {p : Pos} {k np : Nat} {m : List D → M (List D)} {α : DE → M (List D)} (C : CalL X.prog X.w X.K X.mg X.base x k np m) (hr : Room k X.A) (hg : Gl X x)
    (ha : PA X (e :: es) (tDA X.K X.mg E α)) (hdb : (x == ("__debug__" : Str)) = false := by decide) (he : starEach (e :: es) X.env = (false, eval e X.env) :: starEach es X.env := by rfl) (hpl : (backTo pos (starEach es X.env)).any (·.1) = false := by rfl) :
    PE X (.Call (.Name x p) (e :: es) [] pos) (tDL X.K X.mg E (lFn m α)) := by
  obtain ⟨hl, f, fd, pn, h1, h2, h3, h4⟩ := C
  exact l_call h4 hl hr hg h1 h2 h3 ha hdb he hpl
/-- a def as the top has left it -/
def Df (K : PySem.W.Frag) (x : Str) (st : Stmt) : Prop := ∃ (f : Addr) (oc : Value) (od an : Option Addr) (osl : Array (Option Value)) (kV doc pm cdv ct : Value),
  PySem.W.nsIn K mainGlobals x = some (some (.ref f)) ∧ K.lookup f = some ⟨oc, od, .func (PySem.W.fnOf x x (defArgs st) (defBody st) (defScope st) .none kV doc pm an cdv ct), osl⟩ ∧ PySem.W.codeIn K cdv x = true ∧ PySem.W.keepIn K (.ref f) = true
theorem df_mk {K : PySem.W.Frag} {x : Str} {st : Stmt} {f : Addr} {oc : Value} {od an : Option Addr} {osl : Array (Option Value)} {kV doc pm cdv ct : Value} (a : PySem.W.nsIn K mainGlobals x = some (some (.ref f)))
    (l : K.lookup f = some ⟨oc, od, .func (PySem.W.fnOf x x (defArgs st) (defBody st) (defScope st) .none kV doc pm an cdv ct), osl⟩) (c : PySem.W.codeIn K cdv x = true) (k : PySem.W.keepIn K (.ref f) = true) : Df K x st := ⟨f, oc, od, an, osl, kV, doc, pm, cdv, ct, a, l, c, k⟩
theorem Df.cal {P : Program} {w : World} {K : PySem.W.Frag} {mg : Str → Option Value} {base h : Heap} {x : Str} {st : Stmt} {k np : Nat} {pn : List Str} {m : List D → M D} (D : Df K x st) (KX : K.In h) (G : h.Ns mainGlobals mg)
    (hb : ∀ (f : Addr) (kV doc pm : Value) (an : Option Addr) (cdv ct : Value) (us : List Value), us.length = pn.length → bindArgs (PySem.W.fnOf x x (defArgs st) (defBody st) (defScope st) .none kV doc pm an cdv ct) ⟨us, []⟩ = pure (pn.zip us)) (hl : LenOk np m)
    (ok : ∀ f fd, Fun K x x st f fd → FnOk P w K mg base CX0 k f fd pn (spD K mg np m)) : Cal P w K mg base x k np m := by
  obtain ⟨f, oc, od, an, osl, kV, doc, pm, cdv, ct, a, l, c, kp⟩ := D
  have F := fun_mk l c kp
  exact ⟨hl, f, _, pn, PySem.W.mg_of KX G a, kp, F.binds (hb f), ok f _ F⟩
theorem Df.calL {P : Program} {w : World} {K : PySem.W.Frag} {mg : Str → Option Value} {base h : Heap} {x : Str} {st : Stmt} {k np : Nat} {pn : List Str} {m : List D → M (List D)} (D : Df K x st) (KX : K.In h) (G : h.Ns mainGlobals mg)
    (hb : ∀ (f : Addr) (kV doc pm : Value) (an : Option Addr) (cdv ct : Value) (us : List Value), us.length = pn.length → bindArgs (PySem.W.fnOf x x (defArgs st) (defBody st) (defScope st) .none kV doc pm an cdv ct) ⟨us, []⟩ = pure (pn.zip us)) (hl : LenOk np m)
    (ok : ∀ f fd, Fun K x x st f fd → FnOk P w K mg base CX0 k f fd pn (spL K mg np m)) : CalL P w K mg base x k np m := by
  obtain ⟨f, oc, od, an, osl, kV, doc, pm, cdv, ct, a, l, c, kp⟩ := D
  have F := fun_mk l c kp
  exact ⟨hl, f, _, pn, PySem.W.mg_of KX G a, kp, F.binds (hb f), ok f _ F⟩
theorem cal_bad {P : Program} {w : World} {K : PySem.W.Frag} {mg : Str → Option Value} {base : Heap} {CX : CXT} {k np : Nat} {f : Addr} {fd : FuncData} {pn : List Str} : FnOk P w K mg base CX k f fd pn (spD K mg np fun _ => bad) :=
  ⟨fun vs H Q E ⟨_, ps, F, S, ds, _, _, _, h⟩ => h.elim, fun A outer s H args us vs Q E _ _ _ _ ⟨_, ps, F, S, ds, _, _, _, h⟩ => h.elim⟩
end
end DL

/-! Reasoning over the data level. -/
namespace DL
open PySem L2

/-! ### computations that end with a value -/
def wp {α : Type} (m : M α) (S : List D) (P : α → List D → Prop) : Prop := ∃ a S', m S = .ok a S' ∧ P a S'
section
variable {α β : Type} {m : M α} {f : α → M β} {S : List D} {P : β → List D → Prop} {Q Q' : α → List D → Prop}
theorem wp.bnd (h : wp m S fun a S1 => wp (f a) S1 P) : wp (bnd m f) S P := by
  obtain ⟨a, S1, e, b, S2, e2, h⟩ := h
  exact ⟨b, S2, by rw [bnd_ok e]; exact e2, h⟩
theorem wp.ret {a : α} (h : Q a S) : wp (ret a) S Q := ⟨a, S, rfl, h⟩
theorem wp.of {a : α} (e : m = DL.ret a) (h : Q a S) : wp m S Q := ⟨a, S, by rw [e]; rfl, h⟩
theorem wp.imp (h : wp m S Q) (k : ∀ a S', Q a S' → Q' a S') : wp m S Q' := by
  obtain ⟨a, S1, e, h⟩ := h
  exact ⟨a, S1, e, k a S1 h⟩
theorem wp.nox (h : wp m S Q) : wp (nox m) S Q := by
  obtain ⟨a, S1, e, h⟩ := h
  exact ⟨a, S1, nox_ok e, h⟩
theorem wp.step (h : wp m S Q) (k : ∀ a S1, Q a S1 → wp (f a) S1 P) : wp (DL.bnd m f) S P := wp.bnd (h.imp k)
theorem wp.ok {a : α} {S' : List D} (e : m S = .ok a S') (h : Q a S') : wp m S Q := ⟨a, S', e, h⟩
end
/-! ### defs -/
theorem runP_ret {n np : Nat} {b : DS} {ds : List D} {d : D} (hl : ds.length = np) (h : b (startD n ds) = ret (.rt d)) : runP n np b ds = ret d := by
  funext S
  unfold runP nox run own DL.bnd
  rw [if_pos hl, h]
  show R.ok d (back S S) = _
  rw [back_self]; rfl
theorem runP_wp {n np : Nat} {b : DS} {ds : List D} {S : List D} {P : D → List D → Prop} (hl : ds.length = np) (h : wp (b (startD n ds)) S fun f S' => ∃ d, f = .rt d ∧ P d (back S S')) : wp (runP n np b ds) S P := by
  obtain ⟨f, S', e, d, rfl, h⟩ := h
  refine ⟨d, back S S', ?_, h⟩
  unfold runP nox run own DL.bnd
  rw [if_pos hl, e]; rfl
theorem runLP_wp {n np : Nat} {b : DS} {ds : List D} {S : List D} {P : List D → List D → Prop} (hl : ds.length = np) (h : wp (b (startD n ds)) S fun f S' => ∃ d, f = .rl d ∧ P d (back S S')) : wp (runLP n np b ds) S P := by
  obtain ⟨f, S', e, d, rfl, h⟩ := h
  refine ⟨d, back S S', ?_, h⟩
  unfold runLP nox runL own DL.bnd
  rw [if_pos hl, e]; rfl
/-! ### equations -/
section
variable {ρ : DE} {a b : DE → M D} {α : DE → M (List D)} {τ υ : DE → M Bool} {s t : DS}
theorem eV_at {i : Nat} {d : D} (h : ρ[i]? = some (some d)) : eV i ρ = ret d := by unfold eV; rw [h]; rfl
theorem sSeq_nx {ρ' : DE} (h : s ρ = ret (.nx ρ')) : sSeq s t ρ = t ρ' := by unfold sSeq; rw [h]; rfl
theorem sSeq_rt {d : D} (h : s ρ = ret (.rt d)) : sSeq s t ρ = ret (.rt d) := by unfold sSeq; rw [h]; rfl
theorem sA_ret {i : Nat} {d : D} (h : a ρ = ret d) (hd : dat d = true) : sA i a ρ = ret (.nx (ρ.set i (some d))) := by unfold sA; rw [h, bnd_ret, if_pos hd]
theorem sR_ret {d : D} (h : a ρ = ret d) (hd : dat d = true) : sR a ρ = ret (.rt d) := by unfold sR; rw [h, bnd_ret, if_pos hd]
theorem sIf_ret {x : Bool} (h : τ ρ = ret x) : sIf τ s t ρ = if x then s ρ else t ρ := by unfold sIf; rw [h, bnd_ret]
theorem e2_ret {f : D → D → Option D} {x y z : D} (h1 : a ρ = ret x) (h2 : b ρ = ret y) (h3 : f x y = some z) : e2 f a b ρ = ret z := by unfold e2; rw [h1, bnd_ret, h2, bnd_ret, h3]; rfl
theorem e1_ret {f : D → Option D} {x z : D} (h1 : a ρ = ret x) (h3 : f x = some z) : e1 f a ρ = ret z := by unfold e1; rw [h1, bnd_ret, h3]; rfl
theorem aC_ret {d : D} {ds : List D} (h1 : a ρ = ret d) (h2 : α ρ = ret ds) : aC a α ρ = ret (d :: ds) := by unfold aC; rw [h1, bnd_ret, h2, bnd_ret]
theorem aN_ret : aN ρ = ret [] := rfl
theorem eB_ret {f : List D → Option D} {ds : List D} {d : D} (h : α ρ = ret ds) (e : f ds = some d) : eB f α ρ = ret d := by unfold eB; rw [h, bnd_ret, e]; rfl
theorem eFn_ret {f : List D → M D} {ds : List D} {d : D} (h : α ρ = ret ds) (hn : noMu ds = true) (e : f ds = ret d) : eFn f α ρ = ret d := by unfold eFn; rw [h, bnd_ret, if_pos hn, e]; rfl
theorem eL_ret {l : DE → M (List D)} {xs : List D} (h : l ρ = ret xs) : eL l ρ = ret (.lst xs) := by unfold eL; rw [h, bnd_ret]
theorem tV_ret {x : Bool} (h : a ρ = ret (.bl x)) : tV a ρ = ret x := by unfold tV; rw [h, bnd_ret]; rfl
/-- x[i] of a value that is no `state` -/
theorem eIx_ret {x y z : D} (h1 : a ρ = ret x) (h2 : b ρ = ret y) (h3 : ∀ S, dIx S x y = some z) : eIx a b ρ = ret z := by
  unfold eIx; rw [h1, bnd_ret, h2, bnd_ret]; funext S; rw [h3]; rfl
end
/-! ### comprehensions, loops -/
theorem lcD_map {γ : D → DE → Option DE} {τ : DE → M Bool} {φ : DE → M D} {ρ : DE} (f : D → D) : ∀ xs : List D,
    (∀ x ∈ xs, ∃ ρ1, γ x ρ = some ρ1 ∧ τ ρ1 = ret true ∧ φ ρ1 = ret (f x) ∧ dat (f x) = true) → lcD γ τ φ ρ xs = ret (xs.map f)
  | [], _ => rfl
  | x :: xs, h => by
    obtain ⟨ρ1, h1, h2, h3, h4⟩ := h x List.mem_cons_self
    unfold lcD
    rw [h1, bnd_some, h2, nox_ret, bnd_ret, if_pos rfl, h3, nox_ret, bnd_ret, if_pos h4, lcD_map f xs fun y hy => h y (List.mem_cons_of_mem _ hy), bnd_ret]
    rfl
theorem lLc_map {it : DE → M (List D)} {γ : D → DE → Option DE} {φ : DE → M D} {vs : List Nat} {ρ : DE} {xs : List D} (f : D → D) (hi : it ρ = ret xs) (hl : xs.length ≤ 100000)
    (h : ∀ x ∈ xs, ∃ ρ1, γ x (wipeD ρ vs) = some ρ1 ∧ φ ρ1 = ret (f x) ∧ dat (f x) = true) : lLc it γ tY φ vs ρ = ret (xs.map f) := by
  unfold lLc
  rw [hi, bnd_ret, if_pos hl]
  exact lcD_map f xs fun x hx => by
    obtain ⟨ρ1, h1, h2, h3⟩ := h x hx
    exact ⟨ρ1, h1, rfl, h2, h3⟩
/-- over a range from 0 -/
theorem lLc_r1 {a : DE → M D} {j : Nat} {φ : DE → M D} {vs : List Nat} {ρ : DE} {n : Nat} (f : Nat → D) (ha : a ρ = ret (.int n)) (hn : n ≤ 100000)
    (h : ∀ i : Nat, i < n → φ ((wipeD ρ vs).set j (some (.int i))) = ret (f i) ∧ dat (f i) = true) : lLc (iR1 a) (gN j) tY φ vs ρ = ret ((List.range n).map f) := by
  have e : iR1 a ρ = ret (rngD 0 n) := by
    unfold iR1; rw [ha, bnd_ret]
    have : smallI (n : Int) = true := by unfold smallI; simp; omega
    simp only [this]; rfl
  have er : rngD 0 (n : Int) = (List.range n).map fun i => D.int (i : Nat) := by
    unfold rngD; simp
  rw [er] at e
  unfold lLc
  rw [e, bnd_ret, if_pos (by simpa using hn)]
  have := lcD_map (γ := gN j) (τ := tY) (φ := φ) (ρ := wipeD ρ vs) (fun d => match d with | .int i => f i.toNat | _ => .non) ((List.range n).map fun i => D.int (i : Nat)) (fun x hx => by
    obtain ⟨i, hi, rfl⟩ := List.mem_map.mp hx
    obtain ⟨h1, h2⟩ := h i (List.mem_range.mp hi)
    exact ⟨_, rfl, rfl, by simpa using h1, by simpa using h2⟩)
  rw [this, List.map_map]
  congr 1
theorem iSq_ret {a : DE → M D} {ρ : DE} {d : D} {xs : List D} (h : a ρ = ret d) (hd : d = .lst xs ∨ d = .tup xs ∨ d = .scr xs) : iSq a ρ = ret xs := by
  unfold iSq; rw [h, bnd_ret]
  rcases hd with rfl | rfl | rfl <;> rfl
theorem iR1_ret {a : DE → M D} {ρ : DE} {n : Nat} (h : a ρ = ret (.int n)) (hn : n ≤ 100000) : iR1 a ρ = ret ((List.range n).map fun i => D.int (i : Nat)) := by
  unfold iR1; rw [h, bnd_ret]
  have : smallI (n : Int) = true := by unfold smallI; simp; omega
  simp only [this]
  show ret (rngD 0 n) = _
  unfold rngD; simp
/-- a loop whose turns change the names as step says, while I holds -/
theorem forD_fold {γ : D → DE → Option DE} {b : DS} (step : DE → D → DE) (I : Nat → DE → Prop) : ∀ (xs : List D) (k : Nat) (ρ : DE), I k ρ →
    (∀ (i : Nat) (x : D) (ρ : DE), xs[i]? = some x → I (k + i) ρ → (∃ ρ1, γ x ρ = some ρ1 ∧ b ρ1 = ret (.nx (step ρ x))) ∧ I (k + i + 1) (step ρ x)) →
    forD γ b xs ρ = ret (.nx (xs.foldl step ρ)) ∧ I (k + xs.length) (xs.foldl step ρ)
  | [], k, ρ, h0, _ => ⟨rfl, h0⟩
  | x :: xs, k, ρ, h0, h => by
    obtain ⟨⟨ρ1, h1, h2⟩, h3⟩ := h 0 x ρ rfl h0
    have ih := forD_fold step I xs (k + 1) (step ρ x) h3 fun i y ρ' hy hI => by
      have := h (i + 1) y ρ' (by simpa using hy) (by rw [show k + (i + 1) = k + 1 + i by omega]; exact hI)
      rw [show k + (i + 1) = k + 1 + i by omega] at this; exact this
    refine ⟨?_, ?_⟩
    · show bnd (opt (γ x ρ)) _ = _
      rw [h1, bnd_some, h2, bnd_ret]
      exact ih.1
    · rw [List.length_cons, show k + (xs.length + 1) = k + 1 + xs.length by omega]; exact ih.2
theorem sFor_ret {it : DE → M (List D)} {γ : D → DE → Option DE} {b : DS} {ρ ρ' : DE} {xs : List D} (h : it ρ = ret xs) (hl : xs.length ≤ 100000) (hf : forD γ b xs ρ = ret (.nx ρ')) : sFor it γ b ρ = ret (.nx ρ') := by
  unfold sFor; rw [h, bnd_ret, if_pos hl]; exact hf
/-- with the state: a comprehension whose elements have what P says -/
theorem lcD_wp {γ : D → DE → Option DE} {φ : DE → M D} {ρ : DE} (I : List D → Prop) (P : D → Prop) : ∀ (xs : List D) (S : List D), I S →
    (∀ x ∈ xs, ∀ S, I S → ∃ ρ1, γ x ρ = some ρ1 ∧ wp (φ ρ1) S fun y S' => I S' ∧ P y ∧ dat y = true) → wp (lcD γ tY φ ρ xs) S fun ys S' => I S' ∧ ys.length = xs.length ∧ ∀ y ∈ ys, P y
  | [], S, h0, _ => ⟨[], S, rfl, h0, rfl, fun y h => by cases h⟩
  | x :: xs, S, h0, h => by
    obtain ⟨ρ1, h1, h2⟩ := h x List.mem_cons_self S h0
    unfold lcD
    rw [h1, bnd_some]
    show wp (bnd (nox (ret true)) _) S _
    rw [nox_ret, bnd_ret, if_pos rfl]
    refine (h2.nox).step fun y S1 ⟨i1, p1, d1⟩ => ?_
    rw [if_pos d1]
    refine (lcD_wp I P xs S1 i1 fun z hz => h z (List.mem_cons_of_mem _ hz)).step fun ys S2 ⟨i2, l2, p2⟩ => ?_
    exact wp.ret ⟨i2, by rw [List.length_cons, List.length_cons, l2], fun z hz => by
      rcases List.mem_cons.mp hz with e | e
      · rw [e]; exact p1
      · exact p2 z e⟩
/-! ### rows of integers -/
def row (xs : List Int) : D := .tup (xs.map D.int)
theorem intsOf_map (xs : List Int) : intsOf (xs.map D.int) = some xs := by
  induction xs with
  | nil => rfl
  | cons x xs ih => rw [List.map_cons]; unfold intsOf; rw [ih]; rfl
theorem dSum_map (xs : List Int) : dSum (.lst (xs.map D.int)) = some (.int xs.sum) := by
  show (intsOf (xs.map D.int)).map (fun is => D.int is.sum) = _
  rw [intsOf_map]; rfl
theorem ixN_nat {n j : Nat} (hj : j < n) : ixN n (j : Int) = some j := by
  unfold ixN; rw [if_pos (by omega), if_pos (by omega)]; simp
theorem atI_nat' {α : Type} {xs : List α} {j : Nat} {v : α} (h : xs[j]? = some v) : atI xs (j : Int) = some v := by
  unfold atI
  rw [ixN_nat (List.getElem?_eq_some_iff.mp h).1]; exact h
theorem dIx_tup {S : List D} {xs : List D} {j : Nat} {v : D} (h : xs[j]? = some v) : dIx S (.tup xs) (.int j) = some v := atI_nat' h
theorem dIx_lst {S : List D} {xs : List D} {j : Nat} {v : D} (h : xs[j]? = some v) : dIx S (.lst xs) (.int j) = some v := atI_nat' h
theorem getD_map {xs : List Int} {j : Nat} (h : j < xs.length) : (xs.map D.int)[j]? = some (.int (xs.getD j 0)) := by
  rw [List.getElem?_map, List.getD_eq_getElem?_getD, List.getElem?_eq_getElem h]; rfl
theorem dIx_row {S : List D} {xs : List Int} {j : Nat} (h : j < xs.length) : dIx S (row xs) (.int j) = some (.int (xs.getD j 0)) := dIx_tup (getD_map h)
/-- of less than 400,000 bits -/
def sm (z : Int) : Prop := z.natAbs.log2 < 400000
theorem mulOk_sm {a b : Int} (ha : sm a) (hb : sm b) : mulOk a b = true := by
  unfold sm at ha hb
  unfold mulOk
  rw [Bool.or_eq_true]
  exact .inl (decide_eq_true (by omega))
theorem sm_of {z : Int} {n : Nat} (h : z.natAbs < 2 ^ n) (hn : n ≤ 400000) : sm z := by
  unfold sm
  by_cases h0 : z.natAbs = 0
  · rw [h0]; decide
  · have := (Nat.log2_lt h0).mpr h
    omega
theorem sm_small {z : Int} {k : Int} (h1 : -k ≤ z) (h2 : z ≤ k) (hk : k.toNat < 2 ^ 1000) : sm z := sm_of (n := 1000) (by omega) (by decide)
/-! ### stepping -/
section
variable {ρ : DE} {S : List D} {P : D → List D → Prop} {a b : DE → M D} {α : DE → M (List D)} {τ υ : DE → M Bool} {s t : DS}
theorem wp_V {i : Nat} {d : D} (h : ρ[i]? = some (some d)) (k : P d S) : wp (eV i ρ) S P := wp.of (eV_at h) k
theorem wp_C {d : D} (k : P d S) : wp (eC d ρ) S P := wp.ret k
theorem wp_1 {f : D → Option D} (h : wp (a ρ) S fun x S1 => ∃ z, f x = some z ∧ P z S1) : wp (e1 f a ρ) S P := wp.step h fun x S1 ⟨z, e, k⟩ => wp.ok (by rw [e]; rfl) k
theorem wp_2 {f : D → D → Option D} (h : wp (a ρ) S fun x S1 => wp (b ρ) S1 fun y S2 => ∃ z, f x y = some z ∧ P z S2) : wp (e2 f a b ρ) S P :=
  wp.step h fun x S1 h => wp.step h fun y S2 ⟨z, e, k⟩ => wp.ok (by rw [e]; rfl) k
theorem wp_I (h : wp (a ρ) S fun x S1 => wp (b ρ) S1 fun y S2 => ∃ z, dIx S2 x y = some z ∧ P z S2) : wp (eIx a b ρ) S P :=
  wp.step h fun x S1 h => wp.step h fun y S2 ⟨z, e, k⟩ => ⟨z, S2, by (show opt (dIx S2 x y) S2 = _); rw [e]; rfl, k⟩
theorem wp_N {Q : List D → List D → Prop} (k : Q [] S) : wp (aN ρ) S Q := wp.ret k
theorem wp_A {Q : List D → List D → Prop} (h : wp (a ρ) S fun x S1 => wp (α ρ) S1 fun xs S2 => Q (x :: xs) S2) : wp (aC a α ρ) S Q :=
  wp.step h fun x S1 h => wp.step h fun xs S2 k => wp.ret k
theorem wp_B {f : List D → Option D} (h : wp (α ρ) S fun xs S1 => ∃ z, f xs = some z ∧ P z S1) : wp (eB f α ρ) S P := wp.step h fun x S1 ⟨z, e, k⟩ => wp.ok (by rw [e]; rfl) k
theorem wp_F {f : List D → M D} (h : wp (α ρ) S fun xs S1 => noMu xs = true ∧ wp (f xs) S1 P) : wp (eFn f α ρ) S P := wp.step h fun x S1 ⟨e, k⟩ => by rw [if_pos e]; exact k.nox
theorem wp_FL {f : List D → M (List D)} {Q : List D → List D → Prop} (h : wp (α ρ) S fun xs S1 => noMu xs = true ∧ wp (f xs) S1 Q) : wp (lFn f α ρ) S Q := wp.step h fun x S1 ⟨e, k⟩ => by rw [if_pos e]; exact k.nox
theorem wp_T (h : wp (α ρ) S fun xs S1 => allDat xs = true ∧ xs.length ≤ big ∧ P (.tup xs) S1) : wp (eTup α ρ) S P := wp.step h fun x S1 ⟨e, l, k⟩ => by
  rw [if_pos (by rw [e, decide_eq_true l]; rfl)]; exact wp.ret k
theorem wp_L {l : DE → M (List D)} (h : wp (l ρ) S fun xs S1 => P (.lst xs) S1) : wp (eL l ρ) S P := wp.step h fun x S1 k => wp.ret k
theorem wp_lL {Q : List D → List D → Prop} (h : wp (α ρ) S fun xs S1 => allDat xs = true ∧ xs.length ≤ big ∧ Q xs S1) : wp (lLst α ρ) S Q := wp.step h fun x S1 ⟨e, l, k⟩ => by
  rw [if_pos (by rw [e, decide_eq_true l]; rfl)]; exact wp.ret k
theorem wp_tV {Q : Bool → List D → Prop} (h : wp (a ρ) S fun x S1 => ∃ z, x = .bl z ∧ Q z S1) : wp (tV a ρ) S Q := wp.step h fun x S1 ⟨z, e, k⟩ => by rw [e]; exact wp.ret k
theorem wp_tT {Q : Bool → List D → Prop} (h : wp (a ρ) S fun x S1 => ∃ z, dTru x = some z ∧ Q z S1) : wp (tT a ρ) S Q := wp.step h fun x S1 ⟨z, e, k⟩ => wp.ok (by rw [e]; rfl) k
theorem wp_tNo {Q : Bool → List D → Prop} (h : wp (τ ρ) S fun x S1 => Q (!x) S1) : wp (tNo τ ρ) S Q := wp.step h fun x S1 k => wp.ret k
theorem wp_tAn {Q : Bool → List D → Prop} (h : wp (τ ρ) S fun x S1 => (x = true → wp (υ ρ) S1 Q) ∧ (x = false → Q false S1)) : wp (tAn τ υ ρ) S Q := wp.step h fun x S1 k => by
  cases x with
  | true => exact k.1 rfl
  | false => exact wp.ret (k.2 rfl)
theorem wp_tOr {Q : Bool → List D → Prop} (h : wp (τ ρ) S fun x S1 => (x = false → wp (υ ρ) S1 Q) ∧ (x = true → Q true S1)) : wp (tOr' τ υ ρ) S Q := wp.step h fun x S1 k => by
  cases x with
  | false => exact k.1 rfl
  | true => exact wp.ret (k.2 rfl)
theorem wp_eAn (h : wp (a ρ) S fun x S1 => ∃ z, x = .bl z ∧ (z = true → wp (b ρ) S1 P) ∧ (z = false → P (.bl false) S1)) : wp (eAn a b ρ) S P := wp.step h fun x S1 ⟨z, e, k1, k2⟩ => by
  subst e
  cases z with
  | true => exact k1 rfl
  | false => exact wp.ret (k2 rfl)
theorem wp_eOr (h : wp (a ρ) S fun x S1 => ∃ z, x = .bl z ∧ (z = false → wp (b ρ) S1 P) ∧ (z = true → P (.bl true) S1)) : wp (eOr a b ρ) S P := wp.step h fun x S1 ⟨z, e, k1, k2⟩ => by
  subst e
  cases z with
  | false => exact k1 rfl
  | true => exact wp.ret (k2 rfl)
theorem wp_eNo (h : wp (a ρ) S fun x S1 => ∃ z, x = .bl z ∧ P (.bl (!z)) S1) : wp (eNo a ρ) S P := wp.step h fun x S1 ⟨z, e, k⟩ => by rw [e]; exact wp.ret k
theorem wp_If (h : wp (τ ρ) S fun x S1 => (x = true → wp (a ρ) S1 P) ∧ (x = false → wp (b ρ) S1 P)) : wp (eIf τ a b ρ) S P := wp.step h fun x S1 k => by
  cases x with
  | true => exact k.1 rfl
  | false => exact k.2 rfl
variable {Z : Fl → List D → Prop}
theorem wp_Seq (h : wp (s ρ) S fun f S1 => match f with
    | .nx ρ' => wp (t ρ') S1 Z
    | f => Z f S1) : wp (sSeq s t ρ) S Z := wp.step h fun f S1 k => by
  cases f <;> first | exact k | exact wp.ret k
theorem wp_Skip (k : Z (.nx ρ) S) : wp (sSkip ρ) S Z := wp.ret k
theorem wp_sA {i : Nat} (h : wp (a ρ) S fun d S1 => dat d = true ∧ Z (.nx (ρ.set i (some d))) S1) : wp (sA i a ρ) S Z := wp.step h fun d S1 ⟨e, k⟩ => by rw [if_pos e]; exact wp.ret k
theorem wp_sM {i : Nat} {l : DE → M (List D)} (h : wp (l ρ) S fun d S1 => Z (.nx (ρ.set i (some (.mu d)))) S1) : wp (sM i l ρ) S Z := wp.step h fun d S1 k => wp.ret k
theorem wp_sR (h : wp (a ρ) S fun d S1 => dat d = true ∧ Z (.rt d) S1) : wp (sR a ρ) S Z := wp.step h fun d S1 ⟨e, k⟩ => by rw [if_pos e]; exact wp.ret k
theorem wp_sRL {l : DE → M (List D)} (h : wp (l ρ) S fun d S1 => Z (.rl d) S1) : wp (sRL l ρ) S Z := wp.step h fun d S1 k => wp.ret k
theorem wp_sE (h : wp (a ρ) S fun d S1 => Z (.nx ρ) S1) : wp (sE a ρ) S Z := wp.step h fun d S1 k => wp.ret k
theorem wp_sIf (h : wp (τ ρ) S fun x S1 => (x = true → wp (s ρ) S1 Z) ∧ (x = false → wp (t ρ) S1 Z)) : wp (sIf τ s t ρ) S Z := wp.step h fun x S1 k => by
  cases x with
  | true => exact k.1 rfl
  | false => exact k.2 rfl
theorem wp_sP {i j : Nat} (h : wp (α ρ) S fun vs S1 => ∃ v w, vs = [v, w] ∧ dat v = true ∧ dat w = true ∧ Z (.nx ((ρ.set i (some v)).set j (some w))) S1) : wp (sP i j α ρ) S Z := wp.step h fun vs S1 ⟨v, w, e, h1, h2, k⟩ => by
  subst e
  show wp (if dat v && dat w then _ else _) _ _
  rw [if_pos (by rw [h1, h2]; rfl)]; exact wp.ret k
theorem wp_sT {is : List Nat} (h : wp (a ρ) S fun d S1 => ∃ ρ', gT is d ρ = some ρ' ∧ Z (.nx ρ') S1) : wp (sT is a ρ) S Z := wp.step h fun d S1 ⟨ρ', e, k⟩ => by rw [e]; exact wp.ret k
theorem wp_Ap {i : Nat} {xs : List D} (hi : ρ[i]? = some (some (.mu xs))) (h : wp (a ρ) S fun d S1 => dat d = true ∧ xs.length < 100000 ∧ Z (.nx (ρ.set i (some (.mu (xs ++ [d]))))) S1) : wp (sAp i a ρ) S Z := by
  unfold sAp; rw [hi]
  exact wp.step h fun d S1 ⟨h1, h2, k⟩ => by rw [if_pos (by rw [h1, decide_eq_true h2]; rfl)]; exact wp.ret k
/-- state[k] = e -/
theorem wp_SS {i : Nat} {c : DE → M D} (hi : ρ[i]? = some (some .st)) (h : wp (a ρ) S fun d S1 => wp (c ρ) S1 fun y S2 => ∃ (z : Int) (j : Nat), y = .int z ∧ dat d = true ∧ ixN S2.length z = some j ∧ Z (.nx ρ) (S2.set j d)) : wp (sSt i c a ρ) S Z := by
  refine wp.step h fun d S1 h => ?_
  rw [hi]
  refine wp.step h fun y S2 ⟨z, j, e, h1, h2, k⟩ => ?_
  subst e
  show wp (if dat d = true then _ else _) _ _
  rw [if_pos h1]
  exact ⟨_, _, by dsimp only; rw [h2], k⟩
theorem wp_SM {i : Nat} {c : DE → M D} {xs : List D} (hi : ρ[i]? = some (some (.mu xs))) (h : wp (a ρ) S fun d S1 => wp (c ρ) S1 fun y S2 => ∃ (z : Int) (j : Nat), y = .int z ∧ dat d = true ∧ ixN xs.length z = some j ∧ Z (.nx (ρ.set i (some (.mu (xs.set j d))))) S2) : wp (sSt i c a ρ) S Z := by
  refine wp.step h fun d S1 h => ?_
  rw [hi]
  refine wp.step h fun y S2 ⟨z, j, e, h1, h2, k⟩ => ?_
  subst e
  show wp (if dat d = true then _ else _) _ _
  rw [if_pos h1, h2]
  exact wp.ret k
theorem wp_New {i : Nat} {l : DE → M (List D)} (h : wp (l ρ) S fun xs S1 => S1 = [.st] ∧ Z (.nx (ρ.set i (some .st))) xs) : wp (sNew i l ρ) S Z := wp.step h fun xs S1 ⟨e, k⟩ => by
  subst e; exact ⟨_, _, rfl, k⟩
theorem wp_For {it : DE → M (List D)} {γ : D → DE → Option DE} (h : wp (it ρ) S fun xs S1 => xs.length ≤ 100000 ∧ wp (forD γ s xs ρ) S1 Z) : wp (sFor it γ s ρ) S Z := wp.step h fun xs S1 ⟨e, k⟩ => by rw [if_pos e]; exact k
/-- a loop by its invariant over (turn, names, state); a turn may hand back -/
theorem wp_forD {γ : D → DE → Option DE} (I : Nat → DE → List D → Prop) : ∀ (xs : List D) (k : Nat) (ρ : DE) (S : List D), I k ρ S →
    (∀ (i : Nat) (x : D) (ρ : DE) (S : List D), xs[i]? = some x → I (k + i) ρ S → ∃ ρ1, γ x ρ = some ρ1 ∧ wp (s ρ1) S fun f S' => match f with
      | .nx ρ' => I (k + i + 1) ρ' S'
      | .ct ρ' => I (k + i + 1) ρ' S'
      | .bk ρ' => Z (.nx ρ') S'
      | f => Z f S') → (∀ ρ S, I (k + xs.length) ρ S → Z (.nx ρ) S) → wp (forD γ s xs ρ) S Z
  | [], k, ρ, S, h0, _, hd => wp.ret (hd ρ S h0)
  | x :: xs, k, ρ, S, h0, h, hd => by
    obtain ⟨ρ1, h1, h2⟩ := h 0 x ρ S rfl h0
    show wp (bnd (opt (γ x ρ)) _) S Z
    rw [h1, bnd_some]
    have hh : ∀ (i : Nat) (y : D) (ρ : DE) (S : List D), xs[i]? = some y → I (k + 1 + i) ρ S → ∃ ρ1, γ y ρ = some ρ1 ∧ wp (s ρ1) S fun f S' => match f with
      | .nx ρ' => I (k + 1 + i + 1) ρ' S'
      | .ct ρ' => I (k + 1 + i + 1) ρ' S'
      | .bk ρ' => Z (.nx ρ') S'
      | f => Z f S' := fun i y ρ S hy hI => by
        have := h (i + 1) y ρ S (by simpa using hy) (by rw [show k + (i + 1) = k + 1 + i by omega]; exact hI)
        rw [show k + (i + 1) = k + 1 + i by omega] at this; exact this
    have hd' : ∀ ρ S, I (k + 1 + xs.length) ρ S → Z (.nx ρ) S := fun ρ S hI => hd ρ S (by rw [List.length_cons, show k + (xs.length + 1) = k + 1 + xs.length by omega]; exact hI)
    refine wp.step h2 fun f S1 k2 => ?_
    cases f with
    | nx ρ' => exact wp_forD I xs (k + 1) ρ' S1 k2 hh hd'
    | ct ρ' => exact wp_forD I xs (k + 1) ρ' S1 k2 hh hd'
    | bk ρ' => exact wp.ret k2
    | rt d => exact wp.ret k2
    | rl d => exact wp.ret k2
theorem wp_Lc {it : DE → M (List D)} {γ : D → DE → Option DE} {φ : DE → M D} {vs : List Nat} {Q : List D → List D → Prop} (I : List D → Prop) (p : D → Prop) (h : wp (it ρ) S fun xs S1 => xs.length ≤ 100000 ∧ I S1 ∧
    (∀ x ∈ xs, ∀ S, I S → ∃ ρ1, γ x (wipeD ρ vs) = some ρ1 ∧ wp (φ ρ1) S fun y S' => I S' ∧ p y ∧ dat y = true) ∧ ∀ ys S', I S' → ys.length = xs.length → (∀ y ∈ ys, p y) → Q ys S') : wp (lLc it γ tY φ vs ρ) S Q :=
  wp.step h fun xs S1 ⟨hl, h0, ht, k⟩ => by
    rw [if_pos hl]
    exact (lcD_wp I p xs S1 h0 ht).imp fun ys S' ⟨h1, h2, h3⟩ => k ys S' h1 h2 h3
end
theorem wp_R1 {ρ : DE} {S : List D} {a : DE → M D} {Q : List D → List D → Prop} {n : Nat} (h : wp (a ρ) S fun x S1 => x = .int n ∧ n ≤ 100000 ∧ Q ((List.range n).map fun i => D.int (i : Nat)) S1) : wp (iR1 a ρ) S Q := by
  obtain ⟨x, S1, e, rfl, hn, k⟩ := h
  have := iR1_ret (a := fun _ => ret (.int n)) (ρ := ρ) rfl hn
  refine ⟨_, S1, ?_, k⟩
  unfold iR1 at this ⊢
  rw [bnd_ok e]
  exact congrFun this S1
theorem ret_of_wp {α : Type} {m : M α} {d : α} (h : ∀ S, wp m S fun a S' => a = d ∧ S' = S) : m = ret d := by
  funext S
  obtain ⟨a, S', e, rfl, rfl⟩ := h S
  exact e
theorem wp_Fz {i : Nat} {s : DS} {ρ : DE} {S : List D} {Z : Fl → List D → Prop} (h : wp (s (frz i ρ)) S Z) : wp (sFz i s ρ) S Z := h
end DL

namespace K01
open PySem L2 DL
def noMuX := 0
def b_unit_row : DS := (sR (eB (f1 dTuple) (aC (eL (lLc (iR1 (eV 0)) (gN 2) tY (eB (f1 dInt) (aC (e2 dEq (eV 2) (eV 1)) aN)) [2])) aN)))
def m_unit_row : List D → M D := runP 3 2 b_unit_row
def b_unit_matrix : DS := (sR (eB (f1 dTuple) (aC (eL (lLc (iR1 (eV 0)) (gN 1) tY (eFn m_unit_row (aC (eV 0) (aC (eV 1) aN))) [1])) aN)))
def m_unit_matrix : List D → M D := runP 2 1 b_unit_matrix
def b_add : DS := (sR (eB (f1 dTuple) (aC (eL (lLc (iR1 (eB (f1 dLen) (aC (eV 0) aN))) (gN 2) tY (e2 dAdd (eIx (eV 0) (eV 2)) (eIx (eV 1) (eV 2))) [2])) aN)))
def m_add : List D → M D := runP 3 2 b_add
def b_scaled : DS := (sR (eB (f1 dTuple) (aC (eL (lLc (iSq (eV 0)) (gN 2) tY (e2 dMul (eV 1) (eV 2)) [2])) aN)))
def m_scaled : List D → M D := runP 3 2 b_scaled
def b_dot : DS := (sR (eB (f1 dSum) (aC (eL (lLc (iR1 (eB (f1 dLen) (aC (eV 0) aN))) (gN 2) tY (e2 dMul (eIx (eV 0) (eV 2)) (eIx (eV 1) (eV 2))) [2])) aN)))
def m_dot : List D → M D := runP 3 2 b_dot
def b_moved : DS := (sSeq (sA 3 (e2 dMul (eL (lLst (aC (eC (.int 0)) aN))) (eV 2)))
  (sSeq (sFor (iR1 (eB (f1 dLen) (aC (eV 1) aN))) (gN 4)
  (sIf (tV (e2 dNe (eIx (eV 0) (eV 4)) (eC (.int 0))))
  (sA 3 (eL (lLc (iR1 (eV 2)) (gN 5) tY (e2 dAdd (eIx (eV 3) (eV 5)) (e2 dMul (eIx (eV 0) (eV 4)) (eIx (eIx (eV 1) (eV 4)) (eV 5)))) [5])))
  sSkip))
  (sR (eB (f1 dTuple) (aC (eV 3) aN)))))
def m_moved : List D → M D := runP 6 3 b_moved
def b_times : DS := (sR (eB (f1 dTuple) (aC (eL (lLc (iSq (eV 0)) (gN 3) tY (eFn m_moved (aC (eV 3) (aC (eV 1) (aC (eV 2) aN)))) [3])) aN)))
def m_times : List D → M D := runP 4 3 b_times
def b_transposed : DS := (sR (eB (f1 dTuple) (aC (eL (lLc (iR1 (eV 1)) (gN 2) tY (eB (f1 dTuple) (aC (eL (lLc (iSq (eV 0)) (gN 3) tY (eIx (eV 3) (eV 2)) [3])) aN)) [2])) aN)))
def m_transposed : List D → M D := runP 4 2 b_transposed
def b_law_state : DS := (sSeq (sA 1 (eC (.int 0)))
  (sSeq (sA 2 (eC (.int 1)))
  (sSeq (sFor (iSq (eCut oN (oS (eC (.int 63))) (eV 0))) (gN 3)
  (sSeq (sA 1 (e2 dAdd (e2 dMul (eV 1) (eC (.int 1000003))) (eB (f1 dAbs) (aC (eV 3) aN))))
  (sA 2 (e2 dMod (eB (f1 dInt) (aC (e2 dAdd (e2 dMul (eV 2) (eC (.int 48271))) (eV 3)) aN)) (eC (.int 2147483647))))))
  (sRL (lLst (aC (eV 1) (aC (eV 2) aN)))))))
def m_law_state : List D → M (List D) := runLP 4 1 b_law_state
def b_law_odd (m : List D → M D) : DS := (sSeq (sIf (tV (e2 dEq (eV 0) (eC (.str "a word that nothing else is"))))
  (sR (eC (.bl true)))
  sSkip)
  (sR (eAn (eIsi ["tuple", "list"] (eV 0)) (e2 dGt (eB (f1 dLen) (aC (eL (lLc (iSq (eV 0)) (gN 1) (tV (eFn m (aC (eV 1) aN))) (eV 1) [1])) aN)) (eC (.int 0))))))
def m_law_odd : Nat → List D → M D
  | 0 => fun _ => bad
  | k + 1 => runP 2 1 (b_law_odd (m_law_odd k))
def b_law_honest : DS := (sR (eIf (tV (eFn (m_law_odd 4) (aC (eV 0) aN))) (eC (.str "odd")) (eV 0)))
def m_law_honest : List D → M D := runP 1 1 b_law_honest
def b_law_take : DS := (sSeq (sIf (tV (e2 dGt (eIx (eV 0) (eC (.int 0))) (eC (.int 0))))
  (sSeq (sA 2 (e2 dMod (eB (f1 dInt) (aC (eIx (eV 0) (eC (.int 0))) aN)) (eV 1)))
  (sSeq (sSt 0 (eC (.int 0)) (e2 dFdiv (eIx (eV 0) (eC (.int 0))) (eV 1)))
  (sR (eV 2))))
  sSkip)
  (sSeq (sSt 0 (eC (.int 1)) (e2 dMod (eB (f1 dInt) (aC (e2 dAdd (e2 dMul (eIx (eV 0) (eC (.int 1))) (eC (.int 48271))) (eC (.int 11))) aN)) (eC (.int 2147483647))))
  (sR (e2 dMod (eB (f1 dInt) (aC (e2 dFdiv (eIx (eV 0) (eC (.int 1))) (eC (.int 7))) aN)) (eV 1)))))
def m_law_take : List D → M D := runP 3 2 b_law_take
def b_law_times : DS := (sSeq (sM 3 (lLst aN))
  (sSeq (sFor (iSq (eV 0)) (gN 4)
  (sAp 3 (eB (f1 dTuple) (aC (eL (lLc (iR1 (eV 2)) (gN 5) tY (eB (f1 dSum) (aC (eL (lLc (iR1 (eB (f1 dLen) (aC (eV 1) aN))) (gN 6) tY (e2 dMul (eIx (eV 4) (eV 6)) (eIx (eIx (eV 1) (eV 6)) (eV 5))) [6])) aN)) [5])) aN))))
  (sFz 3 (sR (eV 3)))))
def m_law_times : List D → M D := runP 7 3 b_law_times
def b_law_row : DS := (sSeq (sA 2 (eIx (eL (lLst (aC (eC (.int 1)) (aC (eC (.int 5)) (aC (eC (.int 100)) (aC (e2 dPow (eC (.int 10)) (eC (.int 15))) aN)))))) (eFn m_law_take (aC (eV 0) (aC (eC (.int 4)) aN)))))
  (sR (eB (f1 dTuple) (aC (eL (lLc (iR1 (eV 1)) (gN 3) tY (e2 dSub (eFn m_law_take (aC (eV 0) (aC (e2 dAdd (e2 dMul (eC (.int 2)) (eV 2)) (eC (.int 1))) aN))) (eV 2)) [3])) aN))))
def m_law_row : List D → M D := runP 4 2 b_law_row
def b_law_given : DS := (sSeq (sIf (tV (e2 dEq (eFn m_law_take (aC (eV 0) (aC (eC (.int 2)) aN))) (eC (.int 0))))
  (sR (eL (lLc (iSq (eV 1)) (gN 2) tY (eV 2) [2])))
  sSkip)
  (sR (eB (f1 dTuple) (aC (eV 1) aN))))
def m_law_given : List D → M D := runP 3 2 b_law_given
def b_law : DS := (sSeq (sNew 1 (lFn m_law_state (aC (eV 0) aN)))
  (sSeq (sT [2, 3, 4] (eL (lLc (iR1 (eC (.int 3))) (gN 11) tY (eFn m_law_take (aC (eV 1) (aC (eIx (eL (lLst (aC (eC (.int 4)) (aC (eC (.int 13)) aN)))) (eFn m_law_take (aC (eV 1) (aC (eC (.int 2)) aN)))) aN))) [11])))
  (sSeq (sT [5, 6] (eTup (aC (eFn m_law_row (aC (eV 1) (aC (eV 2) aN))) (aC (eFn m_law_row (aC (eV 1) (aC (eV 2) aN))) aN))))
  (sSeq (sA 7 (eIx (eFn m_law_row (aC (eV 1) (aC (eC (.int 1)) aN))) (eC (.int 0))))
  (sSeq (sIf (tOr' (tV (e2 dNe (eFn m_law_honest (aC (eFn m_add (aC (eV 5) (aC (eV 6) aN))) aN)) (eB (f1 dTuple) (aC (eL (lLc (iR1 (eV 2)) (gN 11) tY (e2 dAdd (eIx (eV 5) (eV 11)) (eIx (eV 6) (eV 11))) [11])) aN)))) (tV (e2 dNe (eFn m_law_honest (aC (eFn m_scaled (aC (eV 5) (aC (eV 7) aN))) aN)) (eB (f1 dTuple) (aC (eL (lLc (iR1 (eV 2)) (gN 11) tY (e2 dMul (eV 7) (eIx (eV 5) (eV 11))) [11])) aN)))))
  (sR (eC (.bl false)))
  sSkip)
  (sSeq (sIf (tV (e2 dNe (eFn m_law_honest (aC (eFn m_dot (aC (eV 5) (aC (eV 6) aN))) aN)) (eB (f1 dSum) (aC (eL (lLc (iR1 (eV 2)) (gN 11) tY (e2 dMul (eIx (eV 5) (eV 11)) (eIx (eV 6) (eV 11))) [11])) aN))))
  (sR (eC (.bl false)))
  sSkip)
  (sSeq (sA 8 (eL (lLc (iR1 (eV 2)) (gN 11) tY (eFn m_law_row (aC (eV 1) (aC (eV 3) aN))) [11])))
  (sSeq (sA 9 (eL (lLc (iR1 (eV 3)) (gN 11) tY (eFn m_law_row (aC (eV 1) (aC (eV 4) aN))) [11])))
  (sSeq (sA 10 (eFn m_law_times (aC (eV 8) (aC (eV 9) (aC (eV 4) aN)))))
  (sSeq (sIf (tV (e2 dNe (eFn m_law_honest (aC (eFn m_moved (aC (eV 5) (aC (eFn m_law_given (aC (eV 1) (aC (eV 8) aN))) (aC (eV 3) aN)))) aN)) (eIx (eFn m_law_times (aC (eL (lLst (aC (eV 5) aN))) (aC (eV 8) (aC (eV 3) aN)))) (eC (.int 0)))))
  (sR (eC (.bl false)))
  sSkip)
  (sSeq (sIf (tV (e2 dNe (eFn m_law_honest (aC (eFn m_times (aC (eFn m_law_given (aC (eV 1) (aC (eV 8) aN))) (aC (eFn m_law_given (aC (eV 1) (aC (eV 9) aN))) (aC (eV 4) aN)))) aN)) (eB (f1 dTuple) (aC (eV 10) aN))))
  (sR (eC (.bl false)))
  sSkip)
  (sSeq (sIf (tOr' (tV (e2 dNe (eFn m_law_honest (aC (eFn m_moved (aC (eFn m_law_honest (aC (eFn m_moved (aC (eV 5) (aC (eV 8) (aC (eV 3) aN)))) aN)) (aC (eV 9) (aC (eV 4) aN)))) aN)) (eFn m_law_honest (aC (eFn m_moved (aC (eV 5) (aC (eV 10) (aC (eV 4) aN)))) aN)))) (tV (e2 dNe (eFn m_law_honest (aC (eFn m_times (aC (eV 8) (aC (eFn m_law_honest (aC (eFn m_unit_matrix (aC (eV 3) aN)) aN)) (aC (eV 3) aN)))) aN)) (eB (f1 dTuple) (aC (eV 8) aN)))))
  (sR (eC (.bl false)))
  sSkip)
  (sR (e2 dEq (eFn m_law_honest (aC (eFn m_transposed (aC (eFn m_law_given (aC (eV 1) (aC (eV 9) aN))) (aC (eV 4) aN))) aN)) (eB (f1 dTuple) (aC (eL (lLc (iR1 (eV 4)) (gN 12) tY (eB (f1 dTuple) (aC (eL (lLc (iSq (eV 9)) (gN 13) tY (eIx (eV 13) (eV 12)) [13])) aN)) [12])) aN))))))))))))))))
def m_law : List D → M D := runP 14 1 b_law
end K01

namespace K01
open PySem PySem.Spec PyProof.Rows L2 DL
def topS (i : Nat) : Stmt := PySem.Challenge.pw_cyclebounds_k01_rows_and_products.main.body.getD i (.Pass ⟨0, 0, 0, 0⟩)
structure Blt (mg : Str → Option Value) : Prop where
  b_abs : mg "abs" = none
  b_int : mg "int" = none
  b_isinstance : mg "isinstance" = none
  b_len : mg "len" = none
  b_list : mg "list" = none
  b_range : mg "range" = none
  b_sum : mg "sum" = none
  b_tuple : mg "tuple" = none
section
variable {P : Program} {w : World} {K : PySem.W.Frag} {mg : Str → Option Value} {base : Heap}
abbrev fn_unit_row : Stmt := topS 1
theorem sc_unit_row : FnScope ["n", "i", "k"] ["n", "i"] (defScope fn_unit_row) := ⟨rfl, rfl, rfl, by decide +kernel, rfl, by decide +kernel, by decide +kernel⟩
theorem ok_unit_row {f : Addr} {fd : FuncData} (F : Fun K "unit_row" "unit_row" fn_unit_row f fd) (T : Blt mg)  : FnOk P w K mg base CX0 1 f fd ["n", "i"] (spD K mg 2 m_unit_row) := by
  refine def_ok' (b := b_unit_row) (n := 3) (np := 2) F sc_unit_row rfl rfl rfl fun cdv A outer s H E hr => ?_
  unfold b_unit_row
  exact (z_one (z_ret (d_tyc call_tuple_of s_tuple (by rfl) T.b_tuple (by decide +kernel) (d_cons (d_L (l_lc (own := [("k", 2)]) rfl sc_unit_row.nd (i_r1 (by rfl) T.b_range (d_var 0)) (blkOk_by (by first | (dsimp only [cxOf, Cx.wish, Cx.blk, envOfC, compEnvC]; decide +kernel) | rfl)) (by decide) (fun _ _ _ _ _ => (g_name (i := 2) sc_unit_row.nd rfl (by first | exact Or.inl rfl | exact Or.inr rfl))) (fun _ _ _ _ _ => ts_nil) (fun _ _ _ _ _ => (d_tyc call_int1 s_int (by rfl) T.b_int (by decide +kernel) (d_cons (d_cmp (op_eqDD hr.units) s_eq (d_var 2) (d_var 1) (nomark _)) d_nil))))) d_nil))))
abbrev fn_unit_matrix : Stmt := topS 2
theorem sc_unit_matrix : FnScope ["n", "i"] ["n"] (defScope fn_unit_matrix) := ⟨rfl, rfl, rfl, by decide +kernel, rfl, by decide +kernel, by decide +kernel⟩
theorem ok_unit_matrix {f : Addr} {fd : FuncData} (F : Fun K "unit_matrix" "unit_matrix" fn_unit_matrix f fd) (T : Blt mg) (C_unit_row : Cal P w K mg base "unit_row" 1 2 m_unit_row) : FnOk P w K mg base CX0 2 f fd ["n"] (spD K mg 1 m_unit_matrix) := by
  refine def_ok' (b := b_unit_matrix) (n := 2) (np := 1) F sc_unit_matrix rfl rfl rfl fun cdv A outer s H E hr => ?_
  unfold b_unit_matrix
  exact (z_one (z_ret (d_tyc call_tuple_of s_tuple (by rfl) T.b_tuple (by decide +kernel) (d_cons (d_L (l_lc (own := [("i", 1)]) rfl sc_unit_matrix.nd (i_r1 (by rfl) T.b_range (d_var 0)) (blkOk_by (by first | (dsimp only [cxOf, Cx.wish, Cx.blk, envOfC, compEnvC]; decide +kernel) | rfl)) (by decide) (fun _ _ _ _ _ => (g_name (i := 1) sc_unit_matrix.nd rfl (by first | exact Or.inl rfl | exact Or.inr rfl))) (fun _ _ _ _ _ => ts_nil) (fun _ _ _ _ _ => (d_cal C_unit_row (hr.mono (by decide)) (by rfl) (d_cons (d_var 0) (d_cons (d_var 1) d_nil)))))) d_nil))))
abbrev fn_add : Stmt := topS 3
theorem sc_add : FnScope ["v", "w", "k"] ["v", "w"] (defScope fn_add) := ⟨rfl, rfl, rfl, by decide +kernel, rfl, by decide +kernel, by decide +kernel⟩
theorem ok_add {f : Addr} {fd : FuncData} (F : Fun K "add" "add" fn_add f fd) (T : Blt mg)  : FnOk P w K mg base CX0 1 f fd ["v", "w"] (spD K mg 2 m_add) := by
  refine def_ok' (b := b_add) (n := 3) (np := 2) F sc_add rfl rfl rfl fun cdv A outer s H E hr => ?_
  unfold b_add
  exact (z_one (z_ret (d_tyc call_tuple_of s_tuple (by rfl) T.b_tuple (by decide +kernel) (d_cons (d_L (l_lc (own := [("k", 2)]) rfl sc_add.nd (i_r1 (by rfl) T.b_range (d_bi call_len s_len (by rfl) T.b_len (by decide +kernel) (d_cons (d_var 0) d_nil))) (blkOk_by (by first | (dsimp only [cxOf, Cx.wish, Cx.blk, envOfC, compEnvC]; decide +kernel) | rfl)) (by decide) (fun _ _ _ _ _ => (g_name (i := 2) sc_add.nd rfl (by first | exact Or.inl rfl | exact Or.inr rfl))) (fun _ _ _ _ _ => ts_nil) (fun _ _ _ _ _ => (d_op op_addD s_add (d_ix (d_var 0) (d_var 2) (fun _ _ => rfl)) (d_ix (d_var 1) (d_var 2) (fun _ _ => rfl)))))) d_nil))))
abbrev fn_scaled : Stmt := topS 4
theorem sc_scaled : FnScope ["v", "c", "item"] ["v", "c"] (defScope fn_scaled) := ⟨rfl, rfl, rfl, by decide +kernel, rfl, by decide +kernel, by decide +kernel⟩
theorem ok_scaled {f : Addr} {fd : FuncData} (F : Fun K "scaled" "scaled" fn_scaled f fd) (T : Blt mg)  : FnOk P w K mg base CX0 1 f fd ["v", "c"] (spD K mg 2 m_scaled) := by
  refine def_ok' (b := b_scaled) (n := 3) (np := 2) F sc_scaled rfl rfl rfl fun cdv A outer s H E hr => ?_
  unfold b_scaled
  exact (z_one (z_ret (d_tyc call_tuple_of s_tuple (by rfl) T.b_tuple (by decide +kernel) (d_cons (d_L (l_lc (own := [("item", 2)]) rfl sc_scaled.nd (i_seq (d_var 0)) (blkOk_by (by first | (dsimp only [cxOf, Cx.wish, Cx.blk, envOfC, compEnvC]; decide +kernel) | rfl)) (by decide) (fun _ _ _ _ _ => (g_name (i := 2) sc_scaled.nd rfl (by first | exact Or.inl rfl | exact Or.inr rfl))) (fun _ _ _ _ _ => ts_nil) (fun _ _ _ _ _ => (d_op op_mulD s_mul (d_var 1) (d_var 2))))) d_nil))))
abbrev fn_dot : Stmt := topS 5
theorem sc_dot : FnScope ["v", "w", "k"] ["v", "w"] (defScope fn_dot) := ⟨rfl, rfl, rfl, by decide +kernel, rfl, by decide +kernel, by decide +kernel⟩
theorem ok_dot {f : Addr} {fd : FuncData} (F : Fun K "dot" "dot" fn_dot f fd) (T : Blt mg)  : FnOk P w K mg base CX0 1 f fd ["v", "w"] (spD K mg 2 m_dot) := by
  refine def_ok' (b := b_dot) (n := 3) (np := 2) F sc_dot rfl rfl rfl fun cdv A outer s H E hr => ?_
  unfold b_dot
  exact (z_one (z_ret (d_bi (cr_sum rfl) s_sum (by rfl) T.b_sum (by decide +kernel) (d_cons (d_L (l_lc (own := [("k", 2)]) rfl sc_dot.nd (i_r1 (by rfl) T.b_range (d_bi call_len s_len (by rfl) T.b_len (by decide +kernel) (d_cons (d_var 0) d_nil))) (blkOk_by (by first | (dsimp only [cxOf, Cx.wish, Cx.blk, envOfC, compEnvC]; decide +kernel) | rfl)) (by decide) (fun _ _ _ _ _ => (g_name (i := 2) sc_dot.nd rfl (by first | exact Or.inl rfl | exact Or.inr rfl))) (fun _ _ _ _ _ => ts_nil) (fun _ _ _ _ _ => (d_op op_mulD s_mul (d_ix (d_var 0) (d_var 2) (fun _ _ => rfl)) (d_ix (d_var 1) (d_var 2) (fun _ _ => rfl)))))) d_nil))))
abbrev fn_moved : Stmt := topS 6
theorem sc_moved : FnScope ["x", "rows", "width", "found", "k", "j"] ["x", "rows", "width"] (defScope fn_moved) := ⟨rfl, rfl, rfl, by decide +kernel, rfl, by decide +kernel, by decide +kernel⟩
theorem ok_moved {f : Addr} {fd : FuncData} (F : Fun K "moved" "moved" fn_moved f fd) (T : Blt mg)  : FnOk P w K mg base CX0 1 f fd ["x", "rows", "width"] (spD K mg 3 m_moved) := by
  refine def_ok' (b := b_moved) (n := 6) (np := 3) F sc_moved rfl rfl rfl fun cdv A outer s H E hr => ?_
  unfold b_moved
  exact (z_cons (z_set (i := 3) sc_moved.nd rfl (by first | exact Or.inl rfl | exact Or.inr rfl) (d_op op_mulD s_mul (d_L (l_lst (d_cons d_int d_nil))) (d_var 2)))
  (z_cons (z_for PassesOwn.never rfl (i_r1 (by rfl) T.b_range (d_bi call_len s_len (by rfl) T.b_len (by decide +kernel) (d_cons (d_var 1) d_nil))) (g_name (i := 4) sc_moved.nd rfl (by first | exact Or.inl rfl | exact Or.inr rfl)) (z_one (z_if (t_cmp (op_neDD hr.units) s_ne (d_ix (d_var 0) (d_var 4) (fun _ _ => rfl)) d_int (nomark _)) (z_one (z_set (i := 3) sc_moved.nd rfl (by first | exact Or.inl rfl | exact Or.inr rfl) (d_L (l_lc (own := [("j", 5)]) rfl sc_moved.nd (i_r1 (by rfl) T.b_range (d_var 2)) (blkOk_by (by first | (dsimp only [cxOf, Cx.wish, Cx.blk, envOfC, compEnvC]; decide +kernel) | rfl)) (by decide) (fun _ _ _ _ _ => (g_name (i := 5) sc_moved.nd rfl (by first | exact Or.inl rfl | exact Or.inr rfl))) (fun _ _ _ _ _ => ts_nil) (fun _ _ _ _ _ => (d_op op_addD s_add (d_ix (d_var 3) (d_var 5) (fun _ _ => rfl)) (d_op op_mulD s_mul (d_ix (d_var 0) (d_var 4) (fun _ _ => rfl)) (d_ix (d_ix (d_var 1) (d_var 4) (fun _ _ => rfl)) (d_var 5) (fun _ _ => rfl))))))))) z_nil)))
  (z_one (z_ret (d_tyc call_tuple_of s_tuple (by rfl) T.b_tuple (by decide +kernel) (d_cons (d_var 3) d_nil))))))
abbrev fn_times : Stmt := topS 7
theorem sc_times : FnScope ["one", "two", "width", "row"] ["one", "two", "width"] (defScope fn_times) := ⟨rfl, rfl, rfl, by decide +kernel, rfl, by decide +kernel, by decide +kernel⟩
theorem ok_times {f : Addr} {fd : FuncData} (F : Fun K "times" "times" fn_times f fd) (T : Blt mg) (C_moved : Cal P w K mg base "moved" 1 3 m_moved) : FnOk P w K mg base CX0 2 f fd ["one", "two", "width"] (spD K mg 3 m_times) := by
  refine def_ok' (b := b_times) (n := 4) (np := 3) F sc_times rfl rfl rfl fun cdv A outer s H E hr => ?_
  unfold b_times
  exact (z_one (z_ret (d_tyc call_tuple_of s_tuple (by rfl) T.b_tuple (by decide +kernel) (d_cons (d_L (l_lc (own := [("row", 3)]) rfl sc_times.nd (i_seq (d_var 0)) (blkOk_by (by first | (dsimp only [cxOf, Cx.wish, Cx.blk, envOfC, compEnvC]; decide +kernel) | rfl)) (by decide) (fun _ _ _ _ _ => (g_name (i := 3) sc_times.nd rfl (by first | exact Or.inl rfl | exact Or.inr rfl))) (fun _ _ _ _ _ => ts_nil) (fun _ _ _ _ _ => (d_cal C_moved (hr.mono (by decide)) (by rfl) (d_cons (d_var 3) (d_cons (d_var 1) (d_cons (d_var 2) d_nil))))))) d_nil))))
abbrev fn_transposed : Stmt := topS 8
theorem sc_transposed : FnScope ["rows", "width", "j", "row"] ["rows", "width"] (defScope fn_transposed) := ⟨rfl, rfl, rfl, by decide +kernel, rfl, by decide +kernel, by decide +kernel⟩
theorem ok_transposed {f : Addr} {fd : FuncData} (F : Fun K "transposed" "transposed" fn_transposed f fd) (T : Blt mg)  : FnOk P w K mg base CX0 1 f fd ["rows", "width"] (spD K mg 2 m_transposed) := by
  refine def_ok' (b := b_transposed) (n := 4) (np := 2) F sc_transposed rfl rfl rfl fun cdv A outer s H E hr => ?_
  unfold b_transposed
  exact (z_one (z_ret (d_tyc call_tuple_of s_tuple (by rfl) T.b_tuple (by decide +kernel) (d_cons (d_L (l_lc (own := [("j", 2)]) rfl sc_transposed.nd (i_r1 (by rfl) T.b_range (d_var 1)) (blkOk_by (by first | (dsimp only [cxOf, Cx.wish, Cx.blk, envOfC, compEnvC]; decide +kernel) | rfl)) (by decide) (fun _ _ _ _ _ => (g_name (i := 2) sc_transposed.nd rfl (by first | exact Or.inl rfl | exact Or.inr rfl))) (fun _ _ _ _ _ => ts_nil) (fun _ _ _ _ _ => (d_tyc call_tuple_of s_tuple (by rfl) T.b_tuple (by decide +kernel) (d_cons (d_L (l_lc (own := [("row", 3)]) rfl sc_transposed.nd (i_seq (d_var 0)) (blkOk_by (by first | (dsimp only [cxOf, Cx.wish, Cx.blk, envOfC, compEnvC]; decide +kernel) | rfl)) (by decide) (fun _ _ _ _ _ => (g_name (i := 3) sc_transposed.nd rfl (by first | exact Or.inl rfl | exact Or.inr rfl))) (fun _ _ _ _ _ => ts_nil) (fun _ _ _ _ _ => (d_ix (d_var 3) (d_var 2) (fun _ _ => rfl))))) d_nil))))) d_nil))))
abbrev fn_law_state : Stmt := topS 10
theorem sc_law_state : FnScope ["script", "seed", "total", "cell"] ["script"] (defScope fn_law_state) := ⟨rfl, rfl, rfl, by decide +kernel, rfl, by decide +kernel, by decide +kernel⟩
theorem ok_law_state {f : Addr} {fd : FuncData} (F : Fun K "_law_state" "_law_state" fn_law_state f fd) (T : Blt mg)  : FnOk P w K mg base CX0 1 f fd ["script"] (spL K mg 1 m_law_state) := by
  refine defL_ok' (b := b_law_state) (n := 4) (np := 1) F sc_law_state rfl rfl rfl fun cdv A outer s H E hr => ?_
  unfold b_law_state
  exact (z_cons (z_set (i := 1) sc_law_state.nd rfl (by first | exact Or.inl rfl | exact Or.inr rfl) d_int)
  (z_cons (z_set (i := 2) sc_law_state.nd rfl (by first | exact Or.inl rfl | exact Or.inr rfl) d_int)
  (z_cons (z_for PassesOwn.never rfl (i_seq (d_cut (d_var 0) o_none (o_some d_int))) (g_name (i := 3) sc_law_state.nd rfl (by first | exact Or.inl rfl | exact Or.inr rfl)) (z_cons (z_set (i := 1) sc_law_state.nd rfl (by first | exact Or.inl rfl | exact Or.inr rfl) (d_op op_addD s_add (d_op op_mulD s_mul (d_var 1) d_int) (d_bi call_abs s_abs (by rfl) T.b_abs (by decide +kernel) (d_cons (d_var 3) d_nil))))
  (z_one (z_set (i := 2) sc_law_state.nd rfl (by first | exact Or.inl rfl | exact Or.inr rfl) (d_op op_mod s_mod (d_tyc call_int1 s_int (by rfl) T.b_int (by decide +kernel) (d_cons (d_op op_addD s_add (d_op op_mulD s_mul (d_var 2) d_int) (d_var 3)) d_nil)) d_int)))))
  (z_one (z_retL (l_lst (d_cons (d_var 1) (d_cons (d_var 2) d_nil))))))))
abbrev fn_law_odd : Stmt := topS 11
theorem sc_law_odd : FnScope ["value", "item"] ["value"] (defScope fn_law_odd) := ⟨rfl, rfl, rfl, by decide +kernel, rfl, by decide +kernel, by decide +kernel⟩
theorem ok_law_odd_step {k : Nat} {m : List D → M D} {f : Addr} {fd : FuncData} (F : Fun K "_law_odd" "_law_odd" fn_law_odd f fd) (T : Blt mg)  (C_law_odd : Cal P w K mg base "_law_odd" k 1 m) : FnOk P w K mg base CX0 (k + 1) f fd ["value"] (spD K mg 1 (runP 2 1 (b_law_odd m))) := by
  refine def_ok' (b := b_law_odd m) (n := 2) (np := 1) F sc_law_odd rfl rfl rfl fun cdv A outer s H E hr => ?_
  unfold b_law_odd
  exact (z_cons (z_if (t_cmp (op_eqDD hr.units) s_eq (d_var 0) d_str (nomark _)) (z_one (z_ret d_bl)) z_nil)
  (z_one (z_ret (d_and (d_isis (by rfl) T.b_isinstance (by decide +kernel) (d_var 0) (ty_cons (by rfl) T.b_tuple (by decide +kernel) (ty_cons (by rfl) T.b_list (by decide +kernel) ty_nil))) (d_one (d_cmp op_gt s_gt (d_bi call_len s_len (by rfl) T.b_len (by decide +kernel) (d_cons (d_L (l_lc (own := [("item", 1)]) rfl sc_law_odd.nd (i_seq (d_var 0)) (blkOk_by (by first | (dsimp only [cxOf, Cx.wish, Cx.blk, envOfC, compEnvC]; decide +kernel) | rfl)) (by decide) (fun _ _ _ _ _ => (g_name (i := 1) sc_law_odd.nd rfl (by first | exact Or.inl rfl | exact Or.inr rfl))) (fun _ _ _ _ _ => (ts_one (t_val (d_cal C_law_odd hr (by rfl) (d_cons (d_var 1) d_nil))))) (fun _ _ _ _ _ => (d_var 1)))) d_nil)) d_int (nomark _)))))))
abbrev fn_law_honest : Stmt := topS 12
theorem sc_law_honest : FnScope ["value"] ["value"] (defScope fn_law_honest) := ⟨rfl, rfl, rfl, by decide +kernel, rfl, by decide +kernel, by decide +kernel⟩
theorem ok_law_honest {f : Addr} {fd : FuncData} (F : Fun K "_law_honest" "_law_honest" fn_law_honest f fd) (T : Blt mg) (C_law_odd : Cal P w K mg base "_law_odd" 4 1 (m_law_odd 4)) : FnOk P w K mg base CX0 5 f fd ["value"] (spD K mg 1 m_law_honest) := by
  refine def_ok' (b := b_law_honest) (n := 1) (np := 1) F sc_law_honest rfl rfl rfl fun cdv A outer s H E hr => ?_
  unfold b_law_honest
  exact (z_one (z_ret (d_ifx (χ := fun _ => bad) (t_val (d_cal C_law_odd (hr.mono (by decide)) (by rfl) (d_cons (d_var 0) d_nil))) d_str (d_var 0))))
abbrev fn_law_take : Stmt := topS 13
theorem sc_law_take : FnScope ["state", "m", "value"] ["state", "m"] (defScope fn_law_take) := ⟨rfl, rfl, rfl, by decide +kernel, rfl, by decide +kernel, by decide +kernel⟩
theorem ok_law_take {f : Addr} {fd : FuncData} (F : Fun K "_law_take" "_law_take" fn_law_take f fd) (T : Blt mg)  : FnOk P w K mg base CX0 1 f fd ["state", "m"] (spD K mg 2 m_law_take) := by
  refine def_ok' (b := b_law_take) (n := 3) (np := 2) F sc_law_take rfl rfl rfl fun cdv A outer s H E hr => ?_
  unfold b_law_take
  exact (z_cons (z_if (t_cmp op_gt s_gt (d_ix (d_var 0) d_int (fun _ _ => rfl)) d_int (nomark _)) (z_cons (z_set (i := 2) sc_law_take.nd rfl (by first | exact Or.inl rfl | exact Or.inr rfl) (d_op op_mod s_mod (d_tyc call_int1 s_int (by rfl) T.b_int (by decide +kernel) (d_cons (d_ix (d_var 0) d_int (fun _ _ => rfl)) d_nil)) (d_var 1)))
  (z_cons (z_sub (i := 0) (d_op op_fdivW s_fdiv (d_ix (d_var 0) d_int (fun _ _ => rfl)) (d_var 1)) (pg_sub (pv 0) d_int set_list))
  (z_one (z_ret (d_var 2))))) z_nil)
  (z_cons (z_sub (i := 0) (d_op op_mod s_mod (d_tyc call_int1 s_int (by rfl) T.b_int (by decide +kernel) (d_cons (d_op op_addD s_add (d_op op_mulD s_mul (d_ix (d_var 0) d_int (fun _ _ => rfl)) d_int) d_int) d_nil)) d_int) (pg_sub (pv 0) d_int set_list))
  (z_one (z_ret (d_op op_mod s_mod (d_tyc call_int1 s_int (by rfl) T.b_int (by decide +kernel) (d_cons (d_op op_fdivW s_fdiv (d_ix (d_var 0) d_int (fun _ _ => rfl)) d_int) d_nil)) (d_var 1))))))
abbrev fn_law_times : Stmt := topS 14
theorem sc_law_times : FnScope ["a", "b", "width", "found", "row", "j", "k"] ["a", "b", "width"] (defScope fn_law_times) := ⟨rfl, rfl, rfl, by decide +kernel, rfl, by decide +kernel, by decide +kernel⟩
theorem ok_law_times {f : Addr} {fd : FuncData} (F : Fun K "_law_times" "_law_times" fn_law_times f fd) (T : Blt mg)  : FnOk P w K mg base CX0 1 f fd ["a", "b", "width"] (spD K mg 3 m_law_times) := by
  refine def_ok' (b := b_law_times) (n := 7) (np := 3) F sc_law_times rfl rfl rfl fun cdv A outer s H E hr => ?_
  unfold b_law_times
  exact (z_cons (z_mut (i := 3) sc_law_times.nd rfl (by first | exact Or.inl rfl | exact Or.inr rfl) (l_lst d_nil))
  (z_cons (z_for PassesOwn.never rfl (i_seq (d_var 0)) (g_name (i := 4) sc_law_times.nd rfl (by first | exact Or.inl rfl | exact Or.inr rfl)) (z_one (z_app (pe_bm PySem.F.plainAttrs_list PySem.F.slot_list_append PySem.F.type_list_append mt_append (pv 3) (pa_cons (d_tyc call_tuple_of s_tuple (by rfl) T.b_tuple (by decide +kernel) (d_cons (d_L (l_lc (own := [("j", 5)]) rfl sc_law_times.nd (i_r1 (by rfl) T.b_range (d_var 2)) (blkOk_by (by first | (dsimp only [cxOf, Cx.wish, Cx.blk, envOfC, compEnvC]; decide +kernel) | rfl)) (by decide) (fun _ _ _ _ _ => (g_name (i := 5) sc_law_times.nd rfl (by first | exact Or.inl rfl | exact Or.inr rfl))) (fun _ _ _ _ _ => ts_nil) (fun _ _ _ _ _ => (d_bi (cr_sum rfl) s_sum (by rfl) T.b_sum (by decide +kernel) (d_cons (d_L (l_lc (own := [("k", 6)]) rfl sc_law_times.nd (i_r1 (by rfl) T.b_range (d_bi call_len s_len (by rfl) T.b_len (by decide +kernel) (d_cons (d_var 1) d_nil))) (blkOk_by (by first | (dsimp only [cxOf, Cx.wish, Cx.blk, envOfC, compEnvC]; decide +kernel) | rfl)) (by decide) (fun _ _ _ _ _ => (g_name (i := 6) sc_law_times.nd rfl (by first | exact Or.inl rfl | exact Or.inr rfl))) (fun _ _ _ _ _ => ts_nil) (fun _ _ _ _ _ => (d_op op_mulD s_mul (d_ix (d_var 4) (d_var 6) (fun _ _ => rfl)) (d_ix (d_ix (d_var 1) (d_var 6) (fun _ _ => rfl)) (d_var 5) (fun _ _ => rfl)))))) d_nil))))) d_nil)) pa_nil)))))
  (z_one (z_frz (z_ret (d_var 3))))))
abbrev fn_law_row : Stmt := topS 15
theorem sc_law_row : FnScope ["state", "n", "most", "k"] ["state", "n"] (defScope fn_law_row) := ⟨rfl, rfl, rfl, by decide +kernel, rfl, by decide +kernel, by decide +kernel⟩
theorem ok_law_row {f : Addr} {fd : FuncData} (F : Fun K "_law_row" "_law_row" fn_law_row f fd) (T : Blt mg) (C_law_take : Cal P w K mg base "_law_take" 1 2 m_law_take) : FnOk P w K mg base CX0 2 f fd ["state", "n"] (spD K mg 2 m_law_row) := by
  refine def_ok' (b := b_law_row) (n := 4) (np := 2) F sc_law_row rfl rfl rfl fun cdv A outer s H E hr => ?_
  unfold b_law_row
  exact (z_cons (z_set (i := 2) sc_law_row.nd rfl (by first | exact Or.inl rfl | exact Or.inr rfl) (d_ix (d_L (l_lst (d_cons d_int (d_cons d_int (d_cons d_int (d_cons (d_op op_pow s_pow d_int d_int) d_nil)))))) (d_cal C_law_take (hr.mono (by decide)) (by rfl) (d_cons (d_var 0) (d_cons d_int d_nil))) (fun _ _ => rfl)))
  (z_one (z_ret (d_tyc call_tuple_of s_tuple (by rfl) T.b_tuple (by decide +kernel) (d_cons (d_L (l_lc (own := [("k", 3)]) rfl sc_law_row.nd (i_r1 (by rfl) T.b_range (d_var 1)) (blkOk_by (by first | (dsimp only [cxOf, Cx.wish, Cx.blk, envOfC, compEnvC]; decide +kernel) | rfl)) (by decide) (fun _ _ _ _ _ => (g_name (i := 3) sc_law_row.nd rfl (by first | exact Or.inl rfl | exact Or.inr rfl))) (fun _ _ _ _ _ => ts_nil) (fun _ _ _ _ _ => (d_op op_sub s_sub (d_cal C_law_take (hr.mono (by decide)) (by rfl) (d_cons (d_var 0) (d_cons (d_op op_addD s_add (d_op op_mulD s_mul d_int (d_var 2)) d_int) d_nil))) (d_var 2))))) d_nil)))))
abbrev fn_law_given : Stmt := topS 16
theorem sc_law_given : FnScope ["state", "rows", "row"] ["state", "rows"] (defScope fn_law_given) := ⟨rfl, rfl, rfl, by decide +kernel, rfl, by decide +kernel, by decide +kernel⟩
theorem ok_law_given {f : Addr} {fd : FuncData} (F : Fun K "_law_given" "_law_given" fn_law_given f fd) (T : Blt mg) (C_law_take : Cal P w K mg base "_law_take" 1 2 m_law_take) : FnOk P w K mg base CX0 2 f fd ["state", "rows"] (spD K mg 2 m_law_given) := by
  refine def_ok' (b := b_law_given) (n := 3) (np := 2) F sc_law_given rfl rfl rfl fun cdv A outer s H E hr => ?_
  unfold b_law_given
  exact (z_cons (z_if (t_cmp (op_eqDD hr.units) s_eq (d_cal C_law_take (hr.mono (by decide)) (by rfl) (d_cons (d_var 0) (d_cons d_int d_nil))) d_int (nomark _)) (z_one (z_ret (d_L (l_lc (own := [("row", 2)]) rfl sc_law_given.nd (i_seq (d_var 1)) (blkOk_by (by first | (dsimp only [cxOf, Cx.wish, Cx.blk, envOfC, compEnvC]; decide +kernel) | rfl)) (by decide) (fun _ _ _ _ _ => (g_name (i := 2) sc_law_given.nd rfl (by first | exact Or.inl rfl | exact Or.inr rfl))) (fun _ _ _ _ _ => ts_nil) (fun _ _ _ _ _ => (d_var 2)))))) z_nil)
  (z_one (z_ret (d_tyc call_tuple_of s_tuple (by rfl) T.b_tuple (by decide +kernel) (d_cons (d_var 1) d_nil)))))
abbrev fn_law : Stmt := topS 17
theorem sc_law : FnScope ["script", "state", "n", "m", "width", "v", "w", "c", "one", "two", "due", "k", "j", "row"] ["script"] (defScope fn_law) := ⟨rfl, rfl, rfl, by decide +kernel, rfl, by decide +kernel, by decide +kernel⟩
theorem ok_law {f : Addr} {fd : FuncData} (F : Fun K "law" "law" fn_law f fd) (T : Blt mg) (C_law_given : Cal P w K mg base "_law_given" 2 2 m_law_given) (C_law_honest : Cal P w K mg base "_law_honest" 5 1 m_law_honest) (C_law_row : Cal P w K mg base "_law_row" 2 2 m_law_row) (C_law_state : CalL P w K mg base "_law_state" 1 1 m_law_state) (C_law_take : Cal P w K mg base "_law_take" 1 2 m_law_take) (C_law_times : Cal P w K mg base "_law_times" 1 3 m_law_times) (C_add : Cal P w K mg base "add" 1 2 m_add) (C_dot : Cal P w K mg base "dot" 1 2 m_dot) (C_moved : Cal P w K mg base "moved" 1 3 m_moved) (C_scaled : Cal P w K mg base "scaled" 1 2 m_scaled) (C_times : Cal P w K mg base "times" 2 3 m_times) (C_transposed : Cal P w K mg base "transposed" 1 2 m_transposed) (C_unit_matrix : Cal P w K mg base "unit_matrix" 2 1 m_unit_matrix) : FnOk P w K mg base CX0 6 f fd ["script"] (spD K mg 1 m_law) := by
  refine def_ok' (b := b_law) (n := 14) (np := 1) F sc_law rfl rfl rfl fun cdv A outer s H E hr => ?_
  unfold b_law
  exact (z_cons (z_new (i := 1) sc_law.nd rfl (by first | exact Or.inl rfl | exact Or.inr rfl) (l_cal C_law_state (hr.mono (by decide)) (by rfl) (d_cons (d_var 0) d_nil)))
  (z_cons (z_tup (d_L (l_lc (own := [("k", 11)]) rfl sc_law.nd (i_r1 (by rfl) T.b_range d_int) (blkOk_by (by first | (dsimp only [cxOf, Cx.wish, Cx.blk, envOfC, compEnvC]; decide +kernel) | rfl)) (by decide) (fun _ _ _ _ _ => (g_name (i := 11) sc_law.nd rfl (by first | exact Or.inl rfl | exact Or.inr rfl))) (fun _ _ _ _ _ => ts_nil) (fun _ _ _ _ _ => (d_cal C_law_take (hr.mono (by decide)) (by rfl) (d_cons (d_var 1) (d_cons (d_ix (d_L (l_lst (d_cons d_int (d_cons d_int d_nil)))) (d_cal C_law_take (hr.mono (by decide)) (by rfl) (d_cons (d_var 1) (d_cons d_int d_nil))) (fun _ _ => rfl)) d_nil)))))) (g_tup rfl (g_cons (i := 2) sc_law.nd rfl (by first | exact Or.inl rfl | exact Or.inr rfl) (g_cons (i := 3) sc_law.nd rfl (by first | exact Or.inl rfl | exact Or.inr rfl) (g_cons (i := 4) sc_law.nd rfl (by first | exact Or.inl rfl | exact Or.inr rfl) g_nil)))))
  (z_cons (z_tup (d_tup (d_cons (d_cal C_law_row (hr.mono (by decide)) (by rfl) (d_cons (d_var 1) (d_cons (d_var 2) d_nil))) (d_cons (d_cal C_law_row (hr.mono (by decide)) (by rfl) (d_cons (d_var 1) (d_cons (d_var 2) d_nil))) d_nil))) (g_tup rfl (g_cons (i := 5) sc_law.nd rfl (by first | exact Or.inl rfl | exact Or.inr rfl) (g_cons (i := 6) sc_law.nd rfl (by first | exact Or.inl rfl | exact Or.inr rfl) g_nil))))
  (z_cons (z_set (i := 7) sc_law.nd rfl (by first | exact Or.inl rfl | exact Or.inr rfl) (d_ix (d_cal C_law_row (hr.mono (by decide)) (by rfl) (d_cons (d_var 1) (d_cons d_int d_nil))) d_int (fun _ _ => rfl)))
  (z_cons (z_if (PW.pt (w_or (t_cmp (op_neDD hr.units) s_ne (d_cal C_law_honest (hr.mono (by decide)) (by rfl) (d_cons (d_cal C_add (hr.mono (by decide)) (by rfl) (d_cons (d_var 5) (d_cons (d_var 6) d_nil))) d_nil)) (d_tyc call_tuple_of s_tuple (by rfl) T.b_tuple (by decide +kernel) (d_cons (d_L (l_lc (own := [("k", 11)]) rfl sc_law.nd (i_r1 (by rfl) T.b_range (d_var 2)) (blkOk_by (by first | (dsimp only [cxOf, Cx.wish, Cx.blk, envOfC, compEnvC]; decide +kernel) | rfl)) (by decide) (fun _ _ _ _ _ => (g_name (i := 11) sc_law.nd rfl (by first | exact Or.inl rfl | exact Or.inr rfl))) (fun _ _ _ _ _ => ts_nil) (fun _ _ _ _ _ => (d_op op_addD s_add (d_ix (d_var 5) (d_var 11) (fun _ _ => rfl)) (d_ix (d_var 6) (d_var 11) (fun _ _ => rfl)))))) d_nil)) (nomark _)) (w_or1 (t_cmp (op_neDD hr.units) s_ne (d_cal C_law_honest (hr.mono (by decide)) (by rfl) (d_cons (d_cal C_scaled (hr.mono (by decide)) (by rfl) (d_cons (d_var 5) (d_cons (d_var 7) d_nil))) d_nil)) (d_tyc call_tuple_of s_tuple (by rfl) T.b_tuple (by decide +kernel) (d_cons (d_L (l_lc (own := [("k", 11)]) rfl sc_law.nd (i_r1 (by rfl) T.b_range (d_var 2)) (blkOk_by (by first | (dsimp only [cxOf, Cx.wish, Cx.blk, envOfC, compEnvC]; decide +kernel) | rfl)) (by decide) (fun _ _ _ _ _ => (g_name (i := 11) sc_law.nd rfl (by first | exact Or.inl rfl | exact Or.inr rfl))) (fun _ _ _ _ _ => ts_nil) (fun _ _ _ _ _ => (d_op op_mulD s_mul (d_var 7) (d_ix (d_var 5) (d_var 11) (fun _ _ => rfl)))))) d_nil)) (nomark _))))) (z_one (z_ret d_bl)) z_nil)
  (z_cons (z_if (t_cmp (op_neDD hr.units) s_ne (d_cal C_law_honest (hr.mono (by decide)) (by rfl) (d_cons (d_cal C_dot (hr.mono (by decide)) (by rfl) (d_cons (d_var 5) (d_cons (d_var 6) d_nil))) d_nil)) (d_bi (cr_sum rfl) s_sum (by rfl) T.b_sum (by decide +kernel) (d_cons (d_L (l_lc (own := [("k", 11)]) rfl sc_law.nd (i_r1 (by rfl) T.b_range (d_var 2)) (blkOk_by (by first | (dsimp only [cxOf, Cx.wish, Cx.blk, envOfC, compEnvC]; decide +kernel) | rfl)) (by decide) (fun _ _ _ _ _ => (g_name (i := 11) sc_law.nd rfl (by first | exact Or.inl rfl | exact Or.inr rfl))) (fun _ _ _ _ _ => ts_nil) (fun _ _ _ _ _ => (d_op op_mulD s_mul (d_ix (d_var 5) (d_var 11) (fun _ _ => rfl)) (d_ix (d_var 6) (d_var 11) (fun _ _ => rfl)))))) d_nil)) (nomark _)) (z_one (z_ret d_bl)) z_nil)
  (z_cons (z_tA (lc_set (i := 8) (own := [("k", 11)]) rfl sc_law.nd rfl rfl (sw_true rfl rfl rfl (by decide +kernel)) (i_r1 (by rfl) T.b_range (d_var 2)) (blkOk_by (by first | (dsimp only [cxOf, Cx.wish, Cx.blk, envOfC, compEnvC]; decide +kernel) | rfl)) (by decide) (fun _ _ _ _ _ => (g_name (i := 11) sc_law.nd rfl (by first | exact Or.inl rfl | exact Or.inr rfl))) (fun _ _ _ _ _ => ts_nil) (fun _ _ _ _ _ => (d_cal C_law_row (hr.mono (by decide)) (by rfl) (d_cons (d_var 1) (d_cons (d_var 3) d_nil))))))
  (z_cons (z_set (i := 9) sc_law.nd rfl (by first | exact Or.inl rfl | exact Or.inr rfl) (d_L (l_lc (own := [("k", 11)]) rfl sc_law.nd (i_r1 (by rfl) T.b_range (d_var 3)) (blkOk_by (by first | (dsimp only [cxOf, Cx.wish, Cx.blk, envOfC, compEnvC]; decide +kernel) | rfl)) (by decide) (fun _ _ _ _ _ => (g_name (i := 11) sc_law.nd rfl (by first | exact Or.inl rfl | exact Or.inr rfl))) (fun _ _ _ _ _ => ts_nil) (fun _ _ _ _ _ => (d_cal C_law_row (hr.mono (by decide)) (by rfl) (d_cons (d_var 1) (d_cons (d_var 4) d_nil)))))))
  (z_cons (z_set (i := 10) sc_law.nd rfl (by first | exact Or.inl rfl | exact Or.inr rfl) (d_cal C_law_times (hr.mono (by decide)) (by rfl) (d_cons (d_var 8) (d_cons (d_var 9) (d_cons (d_var 4) d_nil)))))
  (z_cons (z_if (t_cmp (op_neDD hr.units) s_ne (d_cal C_law_honest (hr.mono (by decide)) (by rfl) (d_cons (d_cal C_moved (hr.mono (by decide)) (by rfl) (d_cons (d_var 5) (d_cons (d_cal C_law_given (hr.mono (by decide)) (by rfl) (d_cons (d_var 1) (d_cons (d_var 8) d_nil))) (d_cons (d_var 3) d_nil)))) d_nil)) (d_ix (d_cal C_law_times (hr.mono (by decide)) (by rfl) (d_cons (d_L (l_lst (d_cons (d_var 5) d_nil))) (d_cons (d_var 8) (d_cons (d_var 3) d_nil)))) d_int (fun _ _ => rfl)) (nomark _)) (z_one (z_ret d_bl)) z_nil)
  (z_cons (z_if (t_cmp (op_neDD hr.units) s_ne (d_cal C_law_honest (hr.mono (by decide)) (by rfl) (d_cons (d_cal C_times (hr.mono (by decide)) (by rfl) (d_cons (d_cal C_law_given (hr.mono (by decide)) (by rfl) (d_cons (d_var 1) (d_cons (d_var 8) d_nil))) (d_cons (d_cal C_law_given (hr.mono (by decide)) (by rfl) (d_cons (d_var 1) (d_cons (d_var 9) d_nil))) (d_cons (d_var 4) d_nil)))) d_nil)) (d_tyc call_tuple_of s_tuple (by rfl) T.b_tuple (by decide +kernel) (d_cons (d_var 10) d_nil)) (nomark _)) (z_one (z_ret d_bl)) z_nil)
  (z_cons (z_if (PW.pt (w_or (t_cmp (op_neDD hr.units) s_ne (d_cal C_law_honest (hr.mono (by decide)) (by rfl) (d_cons (d_cal C_moved (hr.mono (by decide)) (by rfl) (d_cons (d_cal C_law_honest (hr.mono (by decide)) (by rfl) (d_cons (d_cal C_moved (hr.mono (by decide)) (by rfl) (d_cons (d_var 5) (d_cons (d_var 8) (d_cons (d_var 3) d_nil)))) d_nil)) (d_cons (d_var 9) (d_cons (d_var 4) d_nil)))) d_nil)) (d_cal C_law_honest (hr.mono (by decide)) (by rfl) (d_cons (d_cal C_moved (hr.mono (by decide)) (by rfl) (d_cons (d_var 5) (d_cons (d_var 10) (d_cons (d_var 4) d_nil)))) d_nil)) (nomark _)) (w_or1 (t_cmp (op_neDD hr.units) s_ne (d_cal C_law_honest (hr.mono (by decide)) (by rfl) (d_cons (d_cal C_times (hr.mono (by decide)) (by rfl) (d_cons (d_var 8) (d_cons (d_cal C_law_honest (hr.mono (by decide)) (by rfl) (d_cons (d_cal C_unit_matrix (hr.mono (by decide)) (by rfl) (d_cons (d_var 3) d_nil)) d_nil)) (d_cons (d_var 3) d_nil)))) d_nil)) (d_tyc call_tuple_of s_tuple (by rfl) T.b_tuple (by decide +kernel) (d_cons (d_var 8) d_nil)) (nomark _))))) (z_one (z_ret d_bl)) z_nil)
  (z_one (z_ret (d_cmp (op_eqDD hr.units) s_eq (d_cal C_law_honest (hr.mono (by decide)) (by rfl) (d_cons (d_cal C_transposed (hr.mono (by decide)) (by rfl) (d_cons (d_cal C_law_given (hr.mono (by decide)) (by rfl) (d_cons (d_var 1) (d_cons (d_var 9) d_nil))) (d_cons (d_var 4) d_nil))) d_nil)) (d_tyc call_tuple_of s_tuple (by rfl) T.b_tuple (by decide +kernel) (d_cons (d_L (l_lc (own := [("j", 12)]) rfl sc_law.nd (i_r1 (by rfl) T.b_range (d_var 4)) (blkOk_by (by first | (dsimp only [cxOf, Cx.wish, Cx.blk, envOfC, compEnvC]; decide +kernel) | rfl)) (by decide) (fun _ _ _ _ _ => (g_name (i := 12) sc_law.nd rfl (by first | exact Or.inl rfl | exact Or.inr rfl))) (fun _ _ _ _ _ => ts_nil) (fun _ _ _ _ _ => (d_tyc call_tuple_of s_tuple (by rfl) T.b_tuple (by decide +kernel) (d_cons (d_L (l_lc (own := [("row", 13)]) rfl sc_law.nd (i_seq (d_var 9)) (blkOk_by (by first | (dsimp only [cxOf, Cx.wish, Cx.blk, envOfC, compEnvC]; decide +kernel) | rfl)) (by decide) (fun _ _ _ _ _ => (g_name (i := 13) sc_law.nd rfl (by first | exact Or.inl rfl | exact Or.inr rfl))) (fun _ _ _ _ _ => ts_nil) (fun _ _ _ _ _ => (d_ix (d_var 13) (d_var 12) (fun _ _ => rfl))))) d_nil))))) d_nil)) (nomark _))))))))))))))))
end
end K01

namespace K01
open PySem L2 DL
/-! ### the program's defs -/
/-- one unit row -/
theorem map_row {α : Type} (f : α → Int) (l : List α) : (D.tup (l.map fun i => D.int (f i))) = row (l.map f) := by
  unfold row; rw [List.map_map]; rfl
def matOf (R : D) (rs : List (List Int)) : Prop := R = .lst (rs.map row) ∨ R = .tup (rs.map row)
def unitZ (n i : Nat) : List Int := (List.range n).map fun k => if k = i then 1 else 0
theorem p_unit_row {n i : Nat} (hn : n ≤ 1000) : m_unit_row [.int n, .int i] = ret (row (unitZ n i)) := by
  refine runP_ret rfl (sR_ret (eB_ret (aC_ret (eL_ret (lLc_r1 (fun k => .int (if k = i then 1 else 0)) (eV_at rfl) (by omega) fun k hk => ⟨eB_ret (aC_ret (e2_ret (eV_at rfl) (eV_at rfl) rfl) aN_ret) ?_, rfl⟩)) aN_ret) ?_) rfl)
  · show dInt (.bl (decide ((k : Int) = (i : Int)))) = _
    by_cases h : k = i
    · rw [if_pos h, decide_eq_true (by omega)]; rfl
    · rw [if_neg h, decide_eq_false (by omega)]; rfl
  · unfold unitZ; rw [← map_row]; rfl
theorem p_unit_matrix {n : Nat} (hn : n ≤ 1000) : m_unit_matrix [.int n] = ret (.tup ((List.range n).map fun i => row (unitZ n i))) :=
  runP_ret rfl (sR_ret (eB_ret (aC_ret (eL_ret (lLc_r1 (fun i => row (unitZ n i)) (eV_at rfl) (by omega) fun k hk => ⟨eFn_ret (aC_ret (eV_at rfl) (aC_ret (eV_at rfl) aN_ret)) rfl (p_unit_row hn), rfl⟩)) aN_ret) rfl) rfl)
def addZ (v w : List Int) : List Int := (List.range v.length).map fun k => v.getD k 0 + w.getD k 0
theorem len_row (v : List Int) : (f1 dLen) [row v] = some (.int (v.length : Nat)) := by
  show some (D.int ((v.map D.int).length : Nat)) = _
  rw [List.length_map]
theorem p_add {v w : List Int} (hl : v.length ≤ w.length) (hn : v.length ≤ 1000) : m_add [row v, row w] = ret (row (addZ v w)) :=
  runP_ret rfl (sR_ret (eB_ret (aC_ret (eL_ret (lLc_r1 (fun k => .int (v.getD k 0 + w.getD k 0)) (eB_ret (aC_ret (eV_at rfl) aN_ret) (len_row v)) (by omega) fun k hk =>
    ⟨e2_ret (eIx_ret (eV_at rfl) (eV_at rfl) fun _ => dIx_row hk) (eIx_ret (eV_at rfl) (eV_at rfl) fun _ => dIx_row (by omega)) rfl, rfl⟩)) aN_ret) (by unfold addZ; rw [← map_row]; rfl)) rfl)
def scaledZ (v : List Int) (c : Int) : List Int := v.map fun x => c * x
theorem p_scaled {v : List Int} {c : Int} (hn : v.length ≤ 1000) (hv : ∀ x ∈ v, sm x) (hc : sm c) : m_scaled [row v, .int c] = ret (row (scaledZ v c)) := by
  refine runP_ret rfl (sR_ret (eB_ret (aC_ret (eL_ret (lLc_map (xs := v.map D.int) (fun d => match d with | .int x => .int (c * x) | _ => .non) (iSq_ret (eV_at rfl) (.inr (.inl rfl))) (by rw [List.length_map]; omega) fun x hx => ?_)) aN_ret) (d := row (scaledZ v c)) ?_) rfl)
  · obtain ⟨z, hz, rfl⟩ := List.mem_map.mp hx
    refine ⟨_, rfl, e2_ret (eV_at rfl) (eV_at rfl) ?_, rfl⟩
    show (if mulOk c z then some (D.int (c * z)) else none) = _
    rw [if_pos (mulOk_sm hc (hv z hz))]
  · show some (D.tup _) = _
    rw [List.map_map]
    unfold row scaledZ
    rw [List.map_map]; rfl
def dotZ (v w : List Int) : Int := ((List.range v.length).map fun k => v.getD k 0 * w.getD k 0).sum
theorem sm_getD {v : List Int} (h : ∀ x ∈ v, sm x) (k : Nat) : sm (v.getD k 0) := by
  by_cases hk : k < v.length
  · have : v.getD k 0 = v[k] := by rw [List.getD_eq_getElem?_getD, List.getElem?_eq_getElem hk]; rfl
    rw [this]; exact h _ (List.getElem_mem hk)
  · have : v.getD k 0 = 0 := by rw [List.getD_eq_getElem?_getD, List.getElem?_eq_none (by omega)]; rfl
    rw [this]; exact sm_of (n := 1) (by decide) (by omega)
theorem mul_sm {a b : Int} (ha : sm a) (hb : sm b) : dMul (.int a) (.int b) = some (.int (a * b)) := by
  show (if mulOk a b then some (D.int (a * b)) else none) = _
  rw [if_pos (mulOk_sm ha hb)]
theorem p_dot {v w : List Int} (hl : v.length ≤ w.length) (hn : v.length ≤ 1000) (hv : ∀ x ∈ v, sm x) (hw : ∀ x ∈ w, sm x) : m_dot [row v, row w] = ret (.int (dotZ v w)) :=
  runP_ret rfl (sR_ret (eB_ret (aC_ret (eL_ret (lLc_r1 (fun k => .int (v.getD k 0 * w.getD k 0)) (eB_ret (aC_ret (eV_at rfl) aN_ret) (len_row v)) (by omega) fun k hk =>
    ⟨e2_ret (eIx_ret (eV_at rfl) (eV_at rfl) fun _ => dIx_row hk) (eIx_ret (eV_at rfl) (eV_at rfl) fun _ => dIx_row (by omega)) (mul_sm (sm_getD hv k) (sm_getD hw k)), rfl⟩)) aN_ret) (by
      show dSum (.lst _) = _
      have : ((List.range v.length).map fun k => D.int (v.getD k 0 * w.getD k 0)) = ((List.range v.length).map fun k => v.getD k 0 * w.getD k 0).map D.int := by rw [List.map_map]; rfl
      rw [this, dSum_map]; rfl)) rfl)
/-- the sum of the rows times the items -/
def colZ (x : List Int) (rs : List (List Int)) (k j : Nat) : Int := ((List.range k).map fun i => x.getD i 0 * (rs.getD i []).getD j 0).sum
def mvZ (x : List Int) (rs : List (List Int)) (w : Nat) : List Int := (List.range w).map fun j => colZ x rs rs.length j
theorem colZ_succ (x : List Int) (rs : List (List Int)) (k j : Nat) : colZ x rs (k + 1) j = colZ x rs k j + x.getD k 0 * (rs.getD k []).getD j 0 := by
  unfold colZ
  rw [List.range_succ, List.map_append, List.sum_append]
  simp
theorem matOf_items {R : D} {rs : List (List Int)} (h : matOf R rs) : items R = some (rs.map row) := by rcases h with rfl | rfl <;> rfl
theorem matOf_len {R : D} {rs : List (List Int)} (h : matOf R rs) : (f1 dLen) [R] = some (.int (rs.length : Nat)) := by
  rcases h with rfl | rfl <;> (show some (D.int ((rs.map row).length : Nat)) = _; rw [List.length_map])
theorem matOf_ix {R : D} {rs : List (List Int)} (h : matOf R rs) {k : Nat} (hk : k < rs.length) (S : List D) : dIx S R (.int k) = some (row (rs.getD k [])) := by
  have e : (rs.map row)[k]? = some (row (rs.getD k [])) := by
    rw [List.getElem?_map, List.getD_eq_getElem?_getD, List.getElem?_eq_getElem hk]; rfl
  rcases h with rfl | rfl
  · exact dIx_lst e
  · exact dIx_tup e
theorem getD_mem {rs : List (List Int)} {k : Nat} (hk : k < rs.length) : rs.getD k [] ∈ rs := by
  rw [List.getD_eq_getElem?_getD, List.getElem?_eq_getElem hk]; exact List.getElem_mem hk
theorem p_moved {x : List Int} {R : D} {rs : List (List Int)} {w : Nat} (hR : matOf R rs) (hx : rs.length ≤ x.length) (hn : rs.length ≤ 1000) (hw : w ≤ 1000) (hr : ∀ r ∈ rs, w ≤ r.length) (sx : ∀ z ∈ x, sm z) (sr : ∀ r ∈ rs, ∀ z ∈ r, sm z) :
    m_moved [row x, R, .int w] = ret (row (mvZ x rs w)) := by
  -- the names behind k turns
  let found : Nat → D := fun k => .lst (((List.range w).map (colZ x rs k)).map D.int)
  let step : DE → D → DE := fun ρ d => match d with
    | .int k => [some (row x), some R, some (.int w), some (found (k.toNat + 1)), some (.int k), none]
    | _ => ρ
  have key := forD_fold (γ := gN 4) (b := sIf (tV (e2 dNe (eIx (eV 0) (eV 4)) (eC (.int 0)))) (sA 3 (eL (lLc (iR1 (eV 2)) (gN 5) tY (e2 dAdd (eIx (eV 3) (eV 5)) (e2 dMul (eIx (eV 0) (eV 4)) (eIx (eIx (eV 1) (eV 4)) (eV 5)))) [5]))) sSkip) step
    (fun i ρ => ∃ o, ρ = [some (row x), some R, some (.int w), some (found i), o, none]) ((List.range rs.length).map fun i => D.int (i : Nat)) 0 [some (row x), some R, some (.int w), some (found 0), none, none] ⟨none, rfl⟩ (by
      rintro i d ρ hd ⟨o, rfl⟩
      rw [List.getElem?_map] at hd
      cases hr0 : (List.range rs.length)[i]? with
      | none => rw [hr0] at hd; cases hd
      | some j =>
        rw [hr0] at hd
        obtain ⟨hi, hj⟩ := List.getElem?_eq_some_iff.mp hr0
        rw [List.getElem_range] at hj
        subst hj
        cases hd
        rw [List.length_range] at hi
        refine ⟨⟨_, rfl, ?_⟩, ⟨some (.int i), ?_⟩⟩
        · have hx0 : eIx (eV 0) (eV 4) [some (row x), some R, some (.int w), some (found (0 + i)), some (.int i), none] = ret (.int (x.getD i 0)) := eIx_ret (eV_at rfl) (eV_at rfl) fun _ => dIx_row (by omega)
          show sIf _ _ _ [some (row x), some R, some (.int w), some (found (0 + i)), some (.int i), none] = _
          rw [sIf_ret (tV_ret (e2_ret hx0 rfl rfl))]
          by_cases hz : x.getD i 0 = 0
          · rw [hz]
            show ret (Fl.nx _) = _
            have : found (0 + i) = found (i + 1) := by
              show D.lst _ = D.lst _
              congr 2
              rw [Nat.zero_add]
              apply List.map_congr_left
              intro j _
              rw [colZ_succ, hz, Int.zero_mul, Int.add_zero]
            rw [this]; rfl
          · rw [decide_eq_false hz, if_pos (show (!false) = true from rfl)]
            refine sA_ret (eL_ret (lLc_r1 (fun j => .int (colZ x rs (i + 1) j)) (eV_at rfl) (by omega) fun j hj => ⟨?_, rfl⟩)) rfl |>.trans ?_
            · refine e2_ret (x := .int (colZ x rs i j)) (y := .int (x.getD i 0 * (rs.getD i []).getD j 0)) (eIx_ret (x := found (0 + i)) (eV_at rfl) (eV_at rfl) fun _ => ?_) (e2_ret (eIx_ret (eV_at rfl) (eV_at rfl) fun _ => dIx_row (by omega)) (eIx_ret (eIx_ret (eV_at rfl) (eV_at rfl) fun _ => matOf_ix hR hi _) (eV_at rfl) fun _ => dIx_row (by have := hr _ (getD_mem hi); omega)) (mul_sm (sm_getD sx i) (sm_getD (sr _ (getD_mem hi)) j))) ?_
              · refine dIx_lst ?_
                rw [Nat.zero_add, List.getElem?_map, List.getElem?_map, List.getElem?_range hj]; rfl
              · show some (D.int _) = _
                rw [colZ_succ]
            · have : D.lst ((List.range w).map fun j => D.int (colZ x rs (i + 1) j)) = found (i + 1) := by
                show D.lst _ = D.lst _
                rw [List.map_map]; rfl
              rw [this]; rfl
        · show [some (row x), some R, some (.int w), some (found ((i : Int).toNat + 1)), some (.int i), none] = _
          rw [Int.toNat_natCast, Nat.zero_add])
  obtain ⟨e1, o, q2⟩ := key
  rw [q2] at e1
  refine runP_ret rfl ?_
  have h0 : sA 3 (e2 dMul (eL (lLst (aC (eC (.int 0)) aN))) (eV 2)) (startD 6 [row x, R, .int w]) = ret (.nx [some (row x), some R, some (.int w), some (found 0), none, none]) := by
    refine (sA_ret (d := found 0) (e2_ret (x := .lst [.int 0]) rfl (eV_at rfl) ?_) rfl).trans rfl
    show (if _ then _ else _) = _
    rw [if_pos ⟨by omega, by omega, by simp; omega⟩]
    congr 2
    rw [Int.toNat_natCast]
    show (List.replicate w [D.int 0]).flatten = _
    have : ∀ w : Nat, (List.replicate w [D.int 0]).flatten = ((List.range w).map (colZ x rs 0)).map D.int := by
      intro w
      rw [List.map_map]
      induction w with
      | zero => rfl
      | succ w ih => rw [List.range_succ, List.map_append, ← ih, List.replicate_succ', List.flatten_append]; rfl
    exact this w
  refine (sSeq_nx h0).trans ?_
  refine (sSeq_nx (sFor_ret (iR1_ret (eB_ret (aC_ret (eV_at rfl) aN_ret) (matOf_len hR)) (by omega)) (by simp; omega) e1)).trans ?_
  refine sR_ret (eB_ret (aC_ret (eV_at rfl) aN_ret) ?_) rfl
  show some (D.tup _) = _
  have : 0 + ((List.range rs.length).map fun i => D.int (i : Nat)).length = rs.length := by simp
  rw [this]; rfl
/-! ### the law's draws -/
def St (S : List D) : Prop := ∃ s t : Int, S = [.int s, .int t] ∧ 0 ≤ s ∧ 0 ≤ t ∧ t < 2147483647
theorem mul_lit {a b : Int} (h : -(2 ^ 64) < b) (h2 : b < 2 ^ 64) : dMul (.int a) (.int b) = some (.int (a * b)) := by
  show (if mulOk a b then some (D.int (a * b)) else none) = _
  rw [if_pos (by unfold mulOk; rw [Bool.or_eq_true]; exact .inr (by rw [decide_eq_true h, decide_eq_true h2]; rfl))]
theorem mod_pos {a b : Int} (h : 0 < b) : dMod (.int a) (.int b) = some (.int (a % b)) := by
  show (if 0 < b then some (D.int (a % b)) else none) = _
  rw [if_pos h]
theorem fdiv_pos {a b : Int} (h : 0 < b) (h2 : b.natAbs.log2 < 9000) : dFdiv (.int a) (.int b) = some (.int (a / b)) := by
  show (if 0 < b ∧ b.natAbs.log2 < 9000 then some (D.int (a / b)) else none) = _
  rw [if_pos ⟨h, h2⟩]
theorem p_law_state (ns : List Int) (S : List D) : wp (m_law_state [.scr (ns.map D.int)]) S fun xs S' => S' = S ∧ St xs := by
  refine runLP_wp rfl ?_
  refine wp_Seq (wp_sA (wp_C ⟨rfl, wp_Seq (wp_sA (wp_C ⟨rfl, ?_⟩))⟩))
  refine wp_Seq (wp_For ?_)
  have hcut : eCut oN (oS (eC (.int 63))) (eV 0) [some (D.scr (ns.map D.int)), some (.int 0), some (.int 1), none] = ret (.lst (cutD (ns.map D.int) none (some 63))) := rfl
  refine wp.of (iSq_ret hcut (.inl rfl)) ?_
  have hmem : ∀ x ∈ cutD (ns.map D.int) none (some 63), ∃ z : Int, x = .int z := fun x hx => by
    unfold cutD at hx
    have := List.mem_of_mem_drop (List.mem_of_mem_take hx)
    obtain ⟨z, _, rfl⟩ := List.mem_map.mp this
    exact ⟨z, rfl⟩
  have hlen : (cutD (ns.map D.int) none (some 63)).length ≤ 63 := by
    unfold cutD
    rw [List.length_take]
    have : HT.sIx (ns.map D.int).length (ns.map D.int).length (some 63) ≤ 63 := by
      unfold HT.sIx; simp; omega
    omega
  refine ⟨by omega, ?_⟩
  refine wp_forD (fun _ ρ S' => S' = S ∧ ∃ (s t : Int) (o : Option D), ρ = [some (D.scr (ns.map D.int)), some (.int s), some (.int t), o] ∧ 0 ≤ s ∧ 0 ≤ t ∧ t < 2147483647) _ 0 _ S ⟨rfl, 0, 1, none, rfl, by omega, by omega, by omega⟩ ?_ ?_
  · rintro i x ρ S' hx ⟨rfl, s, t, o, rfl, h1, h2, h3⟩
    obtain ⟨z, rfl⟩ := hmem x (List.mem_of_getElem? hx)
    refine ⟨_, rfl, ?_⟩
    refine wp_Seq (wp_sA (wp_2 (wp_2 (wp_V rfl (wp_C ⟨_, mul_lit (by omega) (by omega), ?_⟩)))))
    refine wp_B (wp_A (wp_V rfl (wp_N ⟨.int (if z < 0 then -z else z), rfl, ?_⟩)))
    refine ⟨_, rfl, rfl, ?_⟩
    refine wp_sA (wp_2 (wp_B (wp_A (wp_2 (wp_2 (wp_V rfl (wp_C ⟨_, mul_lit (by omega) (by omega), wp_V rfl ⟨_, rfl, wp_N ⟨.int (t * 48271 + z), rfl, wp_C ⟨_, mod_pos (by omega), ?_⟩⟩⟩⟩)))))))
    refine ⟨rfl, rfl, s * 1000003 + (if z < 0 then -z else z), (t * 48271 + z) % 2147483647, some (.int z), rfl, ?_, Int.emod_nonneg _ (by omega), Int.emod_lt_of_pos _ (by omega)⟩
    split <;> omega
  · rintro ρ S' ⟨rfl, s, t, o, rfl, h1, h2, h3⟩
    refine wp_sRL (wp_lL (wp_A (wp_V rfl (wp_A (wp_V rfl (wp_N ?_))))))
    exact ⟨rfl, (show 2 ≤ big by decide), _, rfl, by rw [back_self], s, t, rfl, h1, h2, h3⟩
theorem back_st {s t : Int} {S' : List D} : back [.int s, .int t] S' = S' := rfl
theorem p_law_take {m : Int} {S : List D} (hs : St S) (hm : 0 < m) (hb : m.natAbs.log2 < 9000) : wp (m_law_take [.st, .int m]) S fun d S' => ∃ v : Int, d = .int v ∧ 0 ≤ v ∧ v < m ∧ St S' := by
  obtain ⟨s, t, rfl, h1, h2, h3⟩ := hs
  refine runP_wp rfl ?_
  refine wp_Seq (wp_sIf (wp_tV (wp_2 (wp_I (wp_V rfl (wp_C ⟨.int s, rfl, wp_C ⟨_, rfl, _, rfl, fun e => ?_, fun e => ?_⟩⟩))))))
  · have hpos : 0 < s := of_decide_eq_true e
    refine wp_Seq (wp_sA (wp_2 (wp_B (wp_A (wp_I (wp_V rfl (wp_C ⟨.int s, rfl, wp_N ⟨.int s, rfl, wp_V rfl ⟨_, mod_pos hm, rfl, ?_⟩⟩⟩)))))))
    refine wp_Seq (wp_SS rfl (wp_2 (wp_I (wp_V rfl (wp_C ⟨.int s, rfl, wp_V rfl ⟨_, fdiv_pos hm hb, wp_C ⟨0, 0, rfl, rfl, rfl, ?_⟩⟩⟩)))))
    refine wp_sR (wp_V rfl ⟨rfl, _, rfl, _, rfl, Int.emod_nonneg _ (by omega), Int.emod_lt_of_pos _ hm, s / m, t, rfl, Int.ediv_nonneg h1 (by omega), h2, h3⟩)
  · refine wp_Skip ?_
    refine wp_Seq (wp_SS rfl (wp_2 (wp_B (wp_A (wp_2 (wp_2 (wp_I (wp_V rfl (wp_C ⟨.int t, rfl, wp_C ⟨_, mul_lit (by omega) (by omega), wp_C ⟨_, rfl, wp_N ⟨.int (t * 48271 + 11), rfl, wp_C ⟨_, mod_pos (by omega), wp_C ⟨1, 1, rfl, rfl, rfl, ?_⟩⟩⟩⟩⟩⟩)))))))))
    have q1 := Int.emod_nonneg (t * 48271 + 11) (show (2147483647 : Int) ≠ 0 by omega)
    have q2 := Int.emod_lt_of_pos (t * 48271 + 11) (show (0 : Int) < 2147483647 by omega)
    refine wp_sR (wp_2 (wp_B (wp_A (wp_2 (wp_I (wp_V rfl (wp_C ⟨.int ((t * 48271 + 11) % 2147483647), rfl, wp_C ⟨_, fdiv_pos (by omega) (by decide), wp_N ⟨_, rfl, wp_V rfl ⟨_, mod_pos hm, rfl, _, rfl, ?_⟩⟩⟩⟩)))))))
    exact ⟨_, rfl, Int.emod_nonneg _ (by omega), Int.emod_lt_of_pos _ hm, s, (t * 48271 + 11) % 2147483647, rfl, h1, q1, q2⟩
/-! ### equality of data -/
mutual
theorem eqv_self : ∀ p : PyData, p.canLay0 = true → PyData.eqv p p = true
  | .none, _ => rfl
  | .bool b, _ => by simp [PyData.eqv]
  | .int i, _ => by simp [PyData.eqv]
  | .str x, _ => by simp [PyData.eqv]
  | .list xs, h => by rw [PyData.eqv]; exact eqvAll_self xs h
  | .tuple xs, h => by rw [PyData.eqv]; exact eqvAll_self xs h
  | .dict _, h => nomatch h
theorem eqvAll_self : ∀ ps : List PyData, PyData.canLayAll0 ps = true → PyData.eqvAll ps ps = true
  | [], _ => rfl
  | p :: ps, h => by
    have h' : p.canLay0 = true ∧ PyData.canLayAll0 ps = true := by simpa [PyData.canLayAll0] using h
    rw [PyData.eqvAll, eqv_self p h'.1, eqvAll_self ps h'.2]; rfl
end
/-- data of at most so many storeys -/
def okN (n : Nat) (d : D) : Prop := ∃ p, toPy d = some p ∧ p.canLay0 = true ∧ p.depth ≤ n
theorem okN_int (n : Nat) (i : Int) : okN n (.int i) := ⟨.int i, rfl, rfl, Nat.zero_le _⟩
theorem okN_all {n : Nat} : ∀ xs : List D, (∀ x ∈ xs, okN n x) → ∃ ps, toPys xs = some ps ∧ PyData.canLayAll0 ps = true ∧ PyData.depthAll ps ≤ n
  | [], _ => ⟨[], rfl, rfl, Nat.zero_le _⟩
  | x :: xs, h => by
    obtain ⟨p, h1, h2, h3⟩ := h x List.mem_cons_self
    obtain ⟨ps, h4, h5, h6⟩ := okN_all xs fun y hy => h y (List.mem_cons_of_mem _ hy)
    refine ⟨p :: ps, ?_, ?_, ?_⟩
    · unfold toPys; rw [h1, h4]
    · simp only [PyData.canLayAll0, h2, h5, Bool.and_self]
    · simp only [PyData.depthAll]; omega
theorem okN_tup {n : Nat} {xs : List D} (h : ∀ x ∈ xs, okN n x) : okN (n + 1) (.tup xs) := by
  obtain ⟨ps, h1, h2, h3⟩ := okN_all xs h
  refine ⟨.tuple ps, ?_, ?_, ?_⟩
  · unfold toPy; rw [h1]; rfl
  · simp only [PyData.canLay0, h2]
  · simp only [PyData.depth]; omega
theorem okN_lst {n : Nat} {xs : List D} (h : ∀ x ∈ xs, okN n x) : okN (n + 1) (.lst xs) := by
  obtain ⟨ps, h1, h2, h3⟩ := okN_all xs h
  refine ⟨.list ps, ?_, ?_, ?_⟩
  · unfold toPy; rw [h1]; rfl
  · simp only [PyData.canLay0, h2]
  · simp only [PyData.depth]; omega
theorem okN_row (n : Nat) (xs : List Int) : okN (n + 1) (row xs) := okN_tup fun x hx => by
  obtain ⟨i, _, rfl⟩ := List.mem_map.mp hx
  exact okN_int n i
theorem okN_tab (n : Nat) (rs : List (List Int)) : okN (n + 2) (.tup (rs.map row)) := okN_tup fun x hx => by
  obtain ⟨i, _, rfl⟩ := List.mem_map.mp hx
  exact okN_row n i
theorem okN_shaped {n : Nat} {d : D} (hn : n ≤ 64) (h : okN n d) : ∃ p, toPy d = some p ∧ SeqAt.shaped p = true := by
  obtain ⟨p, h1, h2, h3⟩ := h
  refine ⟨p, h1, ?_⟩
  unfold SeqAt.shaped
  rw [h2, decide_eq_true (by omega)]; rfl
theorem dEqB_self {n : Nat} {d : D} (hn : n ≤ 64) (h : okN n d) : dEqB d d = some true := by
  obtain ⟨p, h1, h2⟩ := okN_shaped hn h
  unfold dEqB
  rw [h1]
  dsimp only
  rw [h2, Bool.and_self, if_pos rfl, eqv_self p (SeqAt.canLay_of_shaped h2)]
theorem dEq_self {n : Nat} {d : D} (hn : n ≤ 64) (h : okN n d) : dEq d d = some (.bl true) := by
  unfold dEq
  split
  · rename_i i j; simp
  · rw [dEqB_self hn h]; rfl
theorem dNe_self {n : Nat} {d : D} (hn : n ≤ 64) (h : okN n d) : dNe d d = some (.bl false) := by
  unfold dNe
  split
  · rename_i i j; simp
  · rw [dEqB_self hn h]; rfl
/-- a text is no number, no row -/
theorem dEq_str {n : Nat} {d : D} {x : Str} (hn : n ≤ 64) (h : okN n d) (hx : PyData.canLay0 (.str x) = true) (hd : (∃ i, d = .int i) ∨ (∃ xs, d = .tup xs) ∨ ∃ xs, d = .lst xs) : dEq d (.str x) = some (.bl false) := by
  obtain ⟨p, h1, h2⟩ := okN_shaped hn h
  have hs : SeqAt.shaped (.str x) = true := by unfold SeqAt.shaped; rw [hx]; rfl
  have e : dEqB d (.str x) = some false := by
    unfold dEqB
    rw [h1]
    show (if (SeqAt.shaped p && SeqAt.shaped (.str x)) = true then some (PyData.eqv p (.str x)) else none) = _
    rw [h2, hs, Bool.and_self, if_pos rfl]
    rcases hd with ⟨i, rfl⟩ | ⟨xs, rfl⟩ | ⟨xs, rfl⟩
    · cases h1; rfl
    · unfold toPy at h1
      cases hq : toPys xs with
      | none => rw [hq] at h1; cases h1
      | some ps => rw [hq] at h1; cases h1; rfl
    · unfold toPy at h1
      cases hq : toPys xs with
      | none => rw [hq] at h1; cases h1
      | some ps => rw [hq] at h1; cases h1; rfl
  rcases hd with ⟨i, rfl⟩ | ⟨xs, rfl⟩ | ⟨xs, rfl⟩ <;> (show (dEqB _ _).map D.bl = _; rw [e]; rfl)
theorem lift_map {α : Type} (f : α → D) (p : α → Prop) : ∀ ys : List D, (∀ y ∈ ys, ∃ x, y = f x ∧ p x) → ∃ xs : List α, ys = xs.map f ∧ ∀ x ∈ xs, p x
  | [], _ => ⟨[], rfl, fun x h => by cases h⟩
  | y :: ys, h => by
    obtain ⟨x, rfl, hx⟩ := h y List.mem_cons_self
    obtain ⟨xs, rfl, hxs⟩ := lift_map f p ys fun z hz => h z (List.mem_cons_of_mem _ hz)
    exact ⟨x :: xs, rfl, fun z hz => by
      rcases List.mem_cons.mp hz with e | e
      · rw [e]; exact hx
      · exact hxs z e⟩
/-! ### honest values -/
inductive Cl : Nat → D → Prop
  | int (k : Nat) (i : Int) : Cl (k + 1) (.int i)
  | tup {k : Nat} {xs : List D} : (∀ x ∈ xs, Cl k x) → xs.length ≤ 100000 → Cl (k + 1) (.tup xs)
  | lst {k : Nat} {xs : List D} : (∀ x ∈ xs, Cl k x) → xs.length ≤ 100000 → Cl (k + 1) (.lst xs)
theorem Cl.ok : ∀ {k : Nat} {d : D}, Cl k d → okN k d
  | _, _, .int k i => okN_int _ i
  | _, _, .tup h _ => okN_tup fun x hx => (h x hx).ok
  | _, _, .lst h _ => okN_lst fun x hx => (h x hx).ok
theorem lcD_none {γ : D → DE → Option DE} {τ : DE → M Bool} {φ : DE → M D} {ρ : DE} : ∀ xs : List D, (∀ x ∈ xs, ∃ ρ1, γ x ρ = some ρ1 ∧ τ ρ1 = ret false) → lcD γ τ φ ρ xs = ret []
  | [], _ => rfl
  | x :: xs, h => by
    obtain ⟨ρ1, h1, h2⟩ := h x List.mem_cons_self
    unfold lcD
    rw [h1, bnd_some, h2, nox_ret, bnd_ret, if_neg (by decide), lcD_none xs fun y hy => h y (List.mem_cons_of_mem _ hy)]
theorem p_law_odd : ∀ (k : Nat) (d : D), k ≤ 60 → Cl k d → m_law_odd k [d] = ret (.bl false) := by
  intro k
  induction k with
  | zero => intro d _ h; cases h
  | succ k ih =>
    intro d hk h
    have hw : PyData.canLay0 (.str ("a word that nothing else is" : Str)) = true := by decide +kernel
    have seq : ∀ xs : List D, xs.length ≤ 100000 → (∀ x ∈ xs, Cl k x) → (d = .tup xs ∨ d = .lst xs) → m_law_odd (k + 1) [d] = ret (.bl false) := by
      intro xs hl hx hd
      have e0 : dEq d (.str ("a word that nothing else is" : Str)) = some (.bl false) := dEq_str (n := k + 1) (by omega) h.ok hw (by rcases hd with e | e <;> rw [e]; exact .inr (.inl ⟨_, rfl⟩); exact .inr (.inr ⟨_, rfl⟩))
      refine runP_ret rfl ((sSeq_nx (s := sIf _ _ _) (ρ' := [some d, none]) ((sIf_ret (tV_ret (e2_ret (eV_at rfl) rfl e0))).trans rfl)).trans ?_)
      refine sR_ret (a := eAn _ _) ?_ rfl
      have hi : eIsi ["tuple", "list"] (eV 0) [some d, none] = ret (.bl true) := by rcases hd with e | e <;> rw [e] <;> rfl
      have hc : lLc (iSq (eV 0)) (gN 1) (tV (eFn (m_law_odd k) (aC (eV 1) aN))) (eV 1) [1] [some d, none] = ret [] := by
        unfold lLc
        rw [iSq_ret (xs := xs) (eV_at rfl) (by rcases hd with e | e <;> rw [e]; exact .inr (.inl rfl); exact .inl rfl), bnd_ret, if_pos hl]
        exact lcD_none xs fun x hx' => ⟨[some d, some x], by
          show (if dat x = true then _ else none) = _
          have : dat x = true := by cases hx x hx' <;> rfl
          rw [if_pos this]; rfl, tV_ret (eFn_ret (aC_ret (eV_at rfl) aN_ret) (by cases hx x hx' <;> rfl) (ih x (by omega) (hx x hx')))⟩
      show bnd _ _ = _
      rw [hi, bnd_ret]
      exact e2_ret (eB_ret (aC_ret (eL_ret hc) aN_ret) rfl) rfl rfl
    cases h with
    | int _ i =>
      have e0 : dEq (.int i) (.str ("a word that nothing else is" : Str)) = some (.bl false) := dEq_str (n := 1) (by omega) (okN_int 1 i) hw (.inl ⟨i, rfl⟩)
      refine runP_ret rfl ((sSeq_nx (s := sIf _ _ _) (ρ' := [some (.int i), none]) ((sIf_ret (tV_ret (e2_ret (eV_at rfl) rfl e0))).trans rfl)).trans rfl)
    | tup h1 h2 => exact seq _ h2 h1 (.inl rfl)
    | lst h1 h2 => exact seq _ h2 h1 (.inr rfl)
theorem p_law_honest {d : D} (h : Cl 4 d) (hd : dat d = true) : m_law_honest [d] = ret d := by
  refine runP_ret rfl (sR_ret (a := eIf _ _ _) ?_ hd)
  show bnd (tV (eFn (m_law_odd 4) (aC (eV 0) aN)) [some d]) _ = _
  rw [tV_ret (eFn_ret (aC_ret (eV_at rfl) aN_ret) (by cases h <;> rfl) (p_law_odd 4 d (by omega) h)), bnd_ret]
  rfl
theorem cl_row (k : Nat) {xs : List Int} (h : xs.length ≤ 100000) : Cl (k + 2) (row xs) := .tup (fun x hx => by
  obtain ⟨i, _, rfl⟩ := List.mem_map.mp hx
  exact .int k i) (by rw [List.length_map]; exact h)
theorem cl_tab (k : Nat) {rs : List (List Int)} (h : rs.length ≤ 100000) (h2 : ∀ r ∈ rs, r.length ≤ 100000) : Cl (k + 3) (.tup (rs.map row)) := .tup (fun x hx => by
  obtain ⟨i, hi, rfl⟩ := List.mem_map.mp hx
  exact cl_row k (h2 i hi)) (by rw [List.length_map]; exact h)
/-! ### the law -/
theorem p_times {A R : D} {as rs : List (List Int)} {w : Nat} (hA : matOf A as) (hR : matOf R rs) (ha : ∀ a ∈ as, rs.length ≤ a.length) (hna : as.length ≤ 1000) (hn : rs.length ≤ 1000) (hw : w ≤ 1000) (hr : ∀ r ∈ rs, w ≤ r.length) (sa : ∀ a ∈ as, ∀ z ∈ a, sm z) (sr : ∀ r ∈ rs, ∀ z ∈ r, sm z) :
    m_times [A, R, .int w] = ret (.tup ((as.map fun a => mvZ a rs w).map row)) := by
  refine runP_ret rfl (sR_ret (eB_ret (aC_ret (eL_ret (lLc_map (xs := as.map row) (fun d => match d with | .tup xs => (match intsOf xs with | some a => row (mvZ a rs w) | none => .non) | _ => .non) (iSq_ret (eV_at rfl) (by rcases hA with e | e; exact .inl e; exact .inr (.inl e))) (by rw [List.length_map]; omega) fun x hx => ?_)) aN_ret) ?_) rfl)
  · obtain ⟨a, ha', rfl⟩ := List.mem_map.mp hx
    refine ⟨_, rfl, eFn_ret (aC_ret (eV_at rfl) (aC_ret (eV_at rfl) (aC_ret (eV_at rfl) aN_ret))) (by rcases hR with e | e <;> rw [e] <;> rfl) ?_, ?_⟩
    · rw [p_moved hR (ha a ha') hn hw hr (sa a ha') sr]
      show _ = ret (match intsOf (a.map D.int) with | some a => row (mvZ a rs w) | none => .non)
      rw [intsOf_map]
    · show dat (match intsOf (a.map D.int) with | some a => row (mvZ a rs w) | none => .non) = true
      rw [intsOf_map]; rfl
  · show some (D.tup _) = _
    rw [List.map_map, List.map_map]
    congr 2
    apply List.map_congr_left
    intro a _
    show (match intsOf (a.map D.int) with | some a => row (mvZ a rs w) | none => .non) = _
    rw [intsOf_map]; rfl
def trZ (rs : List (List Int)) (w : Nat) : List (List Int) := (List.range w).map fun j => rs.map fun r => r.getD j 0
theorem col_ret {a : DE → M D} {φ : DE → M D} {ρ : DE} {i j : Nat} {rs : List (List Int)} {R : D} (hR : matOf R rs) (hn : rs.length ≤ 1000) (ha : a ρ = ret R) (h : ∀ r ∈ rs, φ ((wipeD ρ [i]).set i (some (row r))) = ret (.int (r.getD j 0))) :
    eB (f1 dTuple) (aC (eL (lLc (iSq a) (gN i) tY φ [i])) aN) ρ = ret (row (rs.map fun r => r.getD j 0)) := by
  refine eB_ret (aC_ret (eL_ret (lLc_map (xs := rs.map row) (fun d => match d with | .tup xs => (match intsOf xs with | some a => D.int (a.getD j 0) | none => D.non) | _ => .non) (iSq_ret ha (by rcases hR with e | e; exact .inl e; exact .inr (.inl e))) (by rw [List.length_map]; omega) fun x hx => ?_)) aN_ret) ?_
  · obtain ⟨r, hr, rfl⟩ := List.mem_map.mp hx
    refine ⟨_, rfl, ?_, ?_⟩
    · show φ ((wipeD ρ [i]).set i (some (row r))) = ret (match intsOf (r.map D.int) with | some a => .int (a.getD j 0) | none => .non)
      rw [h r hr, intsOf_map]
    · show dat (match intsOf (r.map D.int) with | some a => .int (a.getD j 0) | none => .non) = true
      rw [intsOf_map]; rfl
  · show some (D.tup _) = _
    unfold row
    rw [List.map_map, List.map_map]
    congr 2
    apply List.map_congr_left
    intro a _
    show (match intsOf (a.map D.int) with | some a => D.int (a.getD j 0) | none => D.non) = _
    rw [intsOf_map]; rfl
theorem p_transposed {R : D} {rs : List (List Int)} {w : Nat} (hR : matOf R rs) (hn : rs.length ≤ 1000) (hw : w ≤ 1000) (hr : ∀ r ∈ rs, w ≤ r.length) : m_transposed [R, .int w] = ret (.tup ((trZ rs w).map row)) := by
  refine runP_ret rfl (sR_ret (eB_ret (aC_ret (eL_ret (lLc_r1 (fun j => row (rs.map fun r => r.getD j 0)) (eV_at rfl) (by omega) fun j hj => ⟨col_ret (j := j) hR hn (eV_at rfl) fun r hr' => eIx_ret (eV_at rfl) (eV_at rfl) fun _ => dIx_row (by have := hr r hr'; omega), rfl⟩)) aN_ret) ?_) rfl)
  show some (D.tup _) = _
  unfold trZ
  rw [List.map_map]; rfl
theorem p_law_times {A R : D} {as rs : List (List Int)} {w : Nat} (hA : matOf A as) (hR : matOf R rs) (ha : ∀ a ∈ as, rs.length ≤ a.length) (hna : as.length ≤ 1000) (hn : rs.length ≤ 1000) (hw : w ≤ 1000) (hr : ∀ r ∈ rs, w ≤ r.length) (sa : ∀ a ∈ as, ∀ z ∈ a, sm z) (sr : ∀ r ∈ rs, ∀ z ∈ r, sm z) :
    m_law_times [A, R, .int w] = ret (.lst ((as.map fun a => mvZ a rs w).map row)) := by
  refine ret_of_wp fun S => runP_wp rfl ?_
  refine wp_Seq (wp_sM (wp_lL (wp_N ⟨rfl, Nat.zero_le _, ?_⟩)))
  refine wp_Seq (wp_For (wp.of (iSq_ret (xs := as.map row) (eV_at rfl) (by rcases hA with e | e; exact .inl e; exact .inr (.inl e))) ⟨by rw [List.length_map]; omega, ?_⟩))
  refine wp_forD (fun i ρ S' => S' = S ∧ ∃ o, ρ = [some A, some R, some (.int w), some (.mu (((as.take i).map fun a => mvZ a rs w).map row)), o, none, none]) _ 0 _ S ⟨rfl, none, rfl⟩ ?_ ?_
  · rintro i d ρ S' hd ⟨rfl, o, rfl⟩
    rw [List.getElem?_map] at hd
    cases hr0 : as[i]? with
    | none => rw [hr0] at hd; cases hd
    | some a =>
      rw [hr0] at hd
      cases hd
      have ham : a ∈ as := List.mem_of_getElem? hr0
      have hi : i < as.length := (List.getElem?_eq_some_iff.mp hr0).1
      refine ⟨_, rfl, wp_Ap rfl ?_⟩
      refine wp.of (eB_ret (d := row (mvZ a rs w)) (aC_ret (eL_ret (lLc_r1 (fun j => .int (colZ a rs rs.length j)) (eV_at rfl) (by omega) fun j hj => ⟨eB_ret (aC_ret (eL_ret (lLc_r1 (fun k => .int (a.getD k 0 * (rs.getD k []).getD j 0)) (eB_ret (aC_ret (eV_at rfl) aN_ret) (matOf_len hR)) (by omega) fun k hk => ⟨e2_ret (eIx_ret (eV_at rfl) (eV_at rfl) fun _ => dIx_row (by have := ha a ham; omega)) (eIx_ret (eIx_ret (eV_at rfl) (eV_at rfl) fun _ => matOf_ix hR hk _) (eV_at rfl) fun _ => dIx_row (by have := hr _ (getD_mem hk); omega)) (mul_sm (sm_getD (sa a ham) k) (sm_getD (sr _ (getD_mem hk)) j)), rfl⟩)) aN_ret) ?_, rfl⟩)) aN_ret) ?_) ⟨rfl, ?_, rfl, some (row a), ?_⟩
      · show dSum (.lst _) = _
        have : ((List.range rs.length).map fun k => D.int (a.getD k 0 * (rs.getD k []).getD j 0)) = ((List.range rs.length).map fun k => a.getD k 0 * (rs.getD k []).getD j 0).map D.int := by rw [List.map_map]; rfl
        rw [this, dSum_map]; rfl
      · show some (D.tup _) = _
        unfold row mvZ
        rw [List.map_map]; rfl
      · rw [List.length_map, List.length_map, List.length_take]; omega
      · rw [Nat.zero_add, List.take_add_one, hr0, List.map_append, List.map_append]; rfl
  · rintro ρ S' ⟨rfl, o, rfl⟩
    refine wp_Fz (wp_sR (wp_V (d := .lst ((as.map fun a => mvZ a rs w).map row)) ?_ ⟨rfl, _, rfl, rfl, back_self _⟩))
    show some (some (D.lst _)) = _
    rw [Nat.zero_add, List.length_map, List.take_length]
/-! ### sums -/
def sumR (n : Nat) (f : Nat → Int) : Int := ((List.range n).map f).sum
theorem sumR_zero (f : Nat → Int) : sumR 0 f = 0 := rfl
theorem sumR_succ (n : Nat) (f : Nat → Int) : sumR (n + 1) f = sumR n f + f n := by
  unfold sumR; rw [List.range_succ, List.map_append, List.sum_append]; simp
theorem sumR_congr {n : Nat} {f g : Nat → Int} (h : ∀ i, i < n → f i = g i) : sumR n f = sumR n g := by
  unfold sumR
  congr 1
  exact List.map_congr_left fun i hi => h i (List.mem_range.mp hi)
theorem sumR_add (n : Nat) (f g : Nat → Int) : sumR n (fun i => f i + g i) = sumR n f + sumR n g := by
  induction n with
  | zero => rfl
  | succ n ih => rw [sumR_succ, sumR_succ, sumR_succ, ih]; omega
theorem sumR_mul (n : Nat) (f : Nat → Int) (c : Int) : sumR n (fun i => c * f i) = c * sumR n f := by
  induction n with
  | zero => rw [sumR_zero, sumR_zero, Int.mul_zero]
  | succ n ih => rw [sumR_succ, sumR_succ, ih, Int.mul_add]
theorem sumR_mulr (n : Nat) (f : Nat → Int) (c : Int) : sumR n (fun i => f i * c) = sumR n f * c := by
  induction n with
  | zero => rw [sumR_zero, sumR_zero, Int.zero_mul]
  | succ n ih => rw [sumR_succ, sumR_succ, ih, Int.add_mul]
theorem sumR_const0 (n : Nat) : sumR n (fun _ => 0) = 0 := by
  induction n with
  | zero => rfl
  | succ n ih => rw [sumR_succ, ih]; rfl
theorem sumR_swap (n m : Nat) (f : Nat → Nat → Int) : sumR n (fun i => sumR m (f i)) = sumR m (fun j => sumR n fun i => f i j) := by
  induction n with
  | zero => rw [sumR_zero]; exact (sumR_const0 m).symm
  | succ n ih =>
    rw [sumR_succ, ih, ← sumR_add]
    exact sumR_congr fun j _ => (sumR_succ n fun i => f i j).symm
theorem sumR_delta (n : Nat) (f : Nat → Int) (j : Nat) : sumR n (fun i => f i * (if j = i then 1 else 0)) = if j < n then f j else 0 := by
  induction n with
  | zero => rw [if_neg (by omega)]; rfl
  | succ n ih =>
    rw [sumR_succ, ih]
    by_cases h : j < n
    · rw [if_pos h, if_pos (show j < n + 1 by omega), if_neg (show ¬ j = n by omega), Int.mul_zero, Int.add_zero]
    · rw [if_neg h]
      by_cases h2 : j = n
      · rw [if_pos h2, if_pos (show j < n + 1 by omega), h2, Int.mul_one, Int.zero_add]
      · rw [if_neg h2, if_neg (show ¬ j < n + 1 by omega), Int.mul_zero, Int.add_zero]
theorem natAbs_add_le (a b : Int) : (a + b).natAbs ≤ a.natAbs + b.natAbs := Int.natAbs_add_le a b
theorem sumR_bd {n : Nat} {f : Nat → Int} {B : Nat} (h : ∀ i, i < n → (f i).natAbs ≤ B) : (sumR n f).natAbs ≤ n * B := by
  induction n with
  | zero => rw [sumR_zero]; simp
  | succ n ih =>
    rw [sumR_succ]
    have h1 := ih fun i hi => h i (by omega)
    have h2 := h n (by omega)
    have h3 := natAbs_add_le (sumR n f) (f n)
    rw [Nat.succ_mul]; omega
/-- items of at most that size -/
def bd (B : Nat) (xs : List Int) : Prop := ∀ x ∈ xs, x.natAbs ≤ B
theorem bd_getD {B : Nat} {xs : List Int} (h : bd B xs) (k : Nat) : (xs.getD k 0).natAbs ≤ B := by
  by_cases hk : k < xs.length
  · have : xs.getD k 0 = xs[k] := by rw [List.getD_eq_getElem?_getD, List.getElem?_eq_getElem hk]; rfl
    rw [this]; exact h _ (List.getElem_mem hk)
  · have : xs.getD k 0 = 0 := by rw [List.getD_eq_getElem?_getD, List.getElem?_eq_none (by omega)]; rfl
    rw [this]; exact Nat.zero_le _
theorem bd_sm {B n : Nat} {xs : List Int} (h : bd B xs) (hB : B < 2 ^ n) (hn : n ≤ 400000) : ∀ x ∈ xs, sm x := fun x hx => sm_of (n := n) (Nat.lt_of_le_of_lt (h x hx) hB) hn
theorem getD_nil_of {rs : List (List Int)} {k : Nat} (hk : ¬ k < rs.length) : rs.getD k [] = [] := by
  rw [List.getD_eq_getElem?_getD, List.getElem?_eq_none (by omega)]; rfl
theorem colZ_bd {x : List Int} {rs : List (List Int)} {A B : Nat} (hx : bd A x) (hr : ∀ r ∈ rs, bd B r) (k j : Nat) : (colZ x rs k j).natAbs ≤ k * (A * B) := by
  refine sumR_bd (f := fun i => x.getD i 0 * (rs.getD i []).getD j 0) fun i _ => ?_
  rw [Int.natAbs_mul]
  refine Nat.mul_le_mul (bd_getD hx i) ?_
  by_cases hi : i < rs.length
  · exact bd_getD (hr _ (getD_mem hi)) j
  · rw [getD_nil_of hi]; exact Nat.zero_le _
theorem mvZ_bd {x : List Int} {rs : List (List Int)} {A B : Nat} (hx : bd A x) (hr : ∀ r ∈ rs, bd B r) (w : Nat) : bd (rs.length * (A * B)) (mvZ x rs w) := fun y hy => by
  unfold mvZ at hy
  obtain ⟨j, _, rfl⟩ := List.mem_map.mp hy
  exact colZ_bd hx hr _ j
theorem mvZ_len (x : List Int) (rs : List (List Int)) (w : Nat) : (mvZ x rs w).length = w := by unfold mvZ; simp
theorem range_getD {α : Type} (f : Nat → α) (d : α) {n j : Nat} (h : j < n) : ((List.range n).map f).getD j d = f j := by
  rw [List.getD_eq_getElem?_getD, List.getElem?_map, List.getElem?_range h]; rfl
theorem map_getD {α β : Type} (f : α → β) (d : β) (e : α) {l : List α} {j : Nat} (h : j < l.length) : (l.map f).getD j d = f (l.getD j e) := by
  rw [List.getD_eq_getElem?_getD, List.getD_eq_getElem?_getD, List.getElem?_map, List.getElem?_eq_getElem h]; rfl
theorem mvZ_getD (x : List Int) (rs : List (List Int)) {w j : Nat} (h : j < w) : (mvZ x rs w).getD j 0 = colZ x rs rs.length j := range_getD _ 0 h
/-- x (M N) = (x M) N -/
theorem mv_mv {v : List Int} {one two : List (List Int)} {w : Nat} : mvZ (mvZ v one two.length) two w = mvZ v (one.map fun a => mvZ a two w) w := by
  unfold mvZ
  apply List.map_congr_left
  intro k hk
  have hk := List.mem_range.mp hk
  show sumR two.length (fun j => ((List.range two.length).map fun j => colZ v one one.length j).getD j 0 * (two.getD j []).getD k 0) = sumR (one.map _).length fun i => v.getD i 0 * ((one.map _).getD i []).getD k 0
  rw [List.length_map]
  have e1 : sumR two.length (fun j => ((List.range two.length).map fun j => colZ v one one.length j).getD j 0 * (two.getD j []).getD k 0) = sumR two.length fun j => sumR one.length fun i => v.getD i 0 * (one.getD i []).getD j 0 * (two.getD j []).getD k 0 :=
    sumR_congr fun j hj => by rw [range_getD _ 0 hj, sumR_mulr]; rfl
  rw [e1, ← sumR_swap one.length two.length fun i j => v.getD i 0 * (one.getD i []).getD j 0 * (two.getD j []).getD k 0]
  refine sumR_congr fun i hi => ?_
  rw [map_getD (fun a => (List.range w).map fun j => colZ a two two.length j) [] [] hi, range_getD _ 0 hk]
  show _ = v.getD i 0 * sumR two.length fun j => (one.getD i []).getD j 0 * (two.getD j []).getD k 0
  rw [← sumR_mul]
  exact sumR_congr fun j _ => Int.mul_assoc _ _ _
theorem self_range (v : List Int) : (List.range v.length).map (fun k => v.getD k 0) = v := by
  apply List.ext_getElem?
  intro i
  rw [List.getElem?_map]
  by_cases h : i < v.length
  · rw [List.getElem?_range h, List.getElem?_eq_getElem h]
    show some (v.getD i 0) = _
    rw [List.getD_eq_getElem?_getD, List.getElem?_eq_getElem h]; rfl
  · rw [List.getElem?_eq_none (by simpa using h), List.getElem?_eq_none (by omega)]; rfl
/-- the unit matrix -/
theorem mv_unit {a : List Int} {m : Nat} (h : a.length = m) : mvZ a ((List.range m).map (unitZ m)) m = a := by
  have : mvZ a ((List.range m).map (unitZ m)) m = (List.range a.length).map fun k => a.getD k 0 := by
    rw [h]
    unfold mvZ
    apply List.map_congr_left
    intro j hj
    have hj := List.mem_range.mp hj
    show sumR ((List.range m).map (unitZ m)).length (fun i => a.getD i 0 * (((List.range m).map (unitZ m)).getD i []).getD j 0) = _
    rw [List.length_map, List.length_range]
    rw [sumR_congr (g := fun i => a.getD i 0 * if j = i then 1 else 0) fun i hi => by
      rw [range_getD _ [] hi]; unfold unitZ; rw [range_getD _ 0 hj]]
    rw [sumR_delta, if_pos hj]
  rw [this, self_range]
/-! ### the law's own draws of rows -/
theorem p_law_row {n : Nat} {S : List D} (hn : n ≤ 100) (hs : St S) : wp (m_law_row [.st, .int n]) S fun d S' => ∃ xs, d = row xs ∧ xs.length = n ∧ bd (10 ^ 15) xs ∧ St S' := by
  refine runP_wp rfl (wp_Seq (wp_sA (wp_I (wp_L (wp_lL (wp_A (wp_C (wp_A (wp_C (wp_A (wp_C (wp_A (wp_2 (wp_C (wp_C ⟨.int (10 ^ 15), ?_, wp_N ⟨rfl, (show 4 ≤ big by decide), ?_⟩⟩)))))))))))))))
  · show (if (0 : Int) ≤ 15 ∧ (15 : Int) ≤ 1000000 ∧ (10 : Int).natAbs < 2 ^ 64 then some (D.int ((10 : Int) ^ (15 : Int).toNat)) else none) = _
    rw [if_pos (by decide)]; rfl
  refine wp_F (wp_A (wp_V rfl (wp_A (wp_C (wp_N ⟨rfl, ?_⟩)))))
  refine (p_law_take hs (by omega) (by decide)).imp ?_
  rintro _ S1 ⟨v, rfl, v1, v2, hs1⟩
  obtain ⟨most, hm1, hm2, hix⟩ : ∃ most : Int, 1 ≤ most ∧ most ≤ 10 ^ 15 ∧ dIx S1 (.lst [.int 1, .int 5, .int 100, .int (10 ^ 15)]) (.int v) = some (.int most) := by
    have : v = 0 ∨ v = 1 ∨ v = 2 ∨ v = 3 := by omega
    rcases this with rfl | rfl | rfl | rfl
    · exact ⟨1, by decide, by decide, rfl⟩
    · exact ⟨5, by decide, by decide, rfl⟩
    · exact ⟨100, by decide, by decide, rfl⟩
    · exact ⟨10 ^ 15, by decide, by decide, rfl⟩
  refine ⟨_, hix, rfl, ?_⟩
  refine wp_sR (wp_B (wp_A (wp_L ?_)))
  refine wp_Lc St (fun d => ∃ x : Int, d = .int x ∧ x.natAbs ≤ 10 ^ 15) (wp_R1 (n := n) (wp_V rfl ⟨rfl, by omega, by simp; omega, hs1, ?_, ?_⟩))
  · intro x hx S2 hs2
    obtain ⟨i, hi, rfl⟩ := List.mem_map.mp hx
    refine ⟨_, rfl, wp_2 (wp_F (wp_A (wp_V rfl (wp_A (wp_2 (wp_2 (wp_C (wp_V rfl ⟨.int (2 * most), ?_, wp_C ⟨.int (2 * most + 1), rfl, wp_N ⟨rfl, ?_⟩⟩⟩))))))))⟩
    · exact mul_lit (by omega) (by omega)
    · refine (p_law_take hs2 (by omega) ?_).imp ?_
      · have : (2 * most + 1).natAbs < 2 ^ 60 := by omega
        have h0 : (2 * most + 1).natAbs ≠ 0 := by omega
        have := (Nat.log2_lt h0).mpr this
        omega
      · rintro _ S3 ⟨v, rfl, v1, v2, hs3⟩
        exact wp_V rfl ⟨_, rfl, hs3, ⟨_, rfl, by omega⟩, rfl⟩
  · intro ys S2 hs2 hl hp
    obtain ⟨xs, rfl, hxs⟩ := lift_map D.int (fun x => x.natAbs ≤ 10 ^ 15) ys hp
    refine wp_N ⟨_, rfl, rfl, _, rfl, xs, rfl, by simpa using hl, hxs, ?_⟩
    obtain ⟨s, t, rfl, h⟩ := hs
    exact hs2
theorem p_law_given {R : D} {rs : List (List Int)} {S : List D} (hR : R = .lst (rs.map row)) (hn : rs.length ≤ 1000) (hs : St S) : wp (m_law_given [.st, R]) S fun d S' => matOf d rs ∧ St S' := by
  subst hR
  refine runP_wp rfl (wp_Seq (wp_sIf (wp_tV (wp_2 (wp_F (wp_A (wp_V rfl (wp_A (wp_C (wp_N ⟨rfl, ?_⟩))))))))))
  refine (p_law_take hs (by omega) (by decide)).imp ?_
  rintro _ S1 ⟨v, rfl, v1, v2, hs1⟩
  have hb : back S S1 = S1 := by obtain ⟨s, t, rfl, _⟩ := hs; rfl
  refine wp_C ⟨_, rfl, _, rfl, fun _ => ?_, fun _ => ?_⟩
  · refine wp_sR (wp_L (wp.of (lLc_map (xs := rs.map row) id (iSq_ret (eV_at rfl) (.inl rfl)) (by rw [List.length_map]; omega) fun x hx => ?_) ⟨rfl, _, rfl, .inl (by rw [List.map_id]), by rw [hb]; exact hs1⟩))
    obtain ⟨r, _, rfl⟩ := List.mem_map.mp hx
    exact ⟨_, rfl, rfl, rfl⟩
  · exact wp_Skip (wp_sR (wp_B (wp_A (wp_V rfl (wp_N ⟨_, rfl, rfl, _, rfl, .inr rfl, by rw [hb]; exact hs1⟩)))))
theorem honest_F {a : DE → M D} {ρ : DE} {S : List D} {P : D → List D → Prop} (h : wp (a ρ) S fun d S1 => Cl 4 d ∧ P d S1) : wp (eFn m_law_honest (aC a aN) ρ) S P :=
  wp_F (wp_A (h.imp fun d S1 ⟨c, k⟩ => wp_N ⟨by cases c <;> rfl, wp.of (p_law_honest c (by cases c <;> rfl)) k⟩))

theorem law_true (ns : List Int) (_ : ns.length ≤ 63) (_ : ∀ z ∈ ns, Builtin.Int.intBits z ≤ 1048576) : m_law [.scr (ns.map D.int)] [.st] = .ok (.bl true) [.st] := by
  suffices h : wp (m_law [.scr (ns.map D.int)]) [.st] fun d S' => d = .bl true ∧ S' = [.st] by
    obtain ⟨d, S', e, rfl, rfl⟩ := h
    exact e
  refine runP_wp rfl ?_
  suffices h : wp (b_law (startD 14 [.scr (ns.map D.int)])) [.st] fun f S' => f = .rt (.bl true) by
    exact h.imp fun f S' e => ⟨_, e, rfl, rfl⟩
  refine wp_Seq (wp_New (wp_FL (wp_A (wp_V rfl (wp_N ⟨rfl, (p_law_state ns [.st]).imp ?_⟩)))))
  rintro S _ ⟨rfl, hs⟩
  refine ⟨rfl, ?_⟩
  -- n, m, width
  refine wp_Seq (wp_sT (wp_L (wp_Lc St (fun d => ∃ x : Int, d = .int x ∧ 0 ≤ x ∧ x ≤ 12) (wp_R1 (n := 3) (wp_C ⟨rfl, by omega, by decide, hs, ?_, ?_⟩)))))
  · intro x hx S1 hs1
    obtain ⟨i, _, rfl⟩ := List.mem_map.mp hx
    refine ⟨_, rfl, wp_F (wp_A (wp_V rfl (wp_A (wp_I (wp_L (wp_lL (wp_A (wp_C (wp_A (wp_C (wp_N ⟨rfl, (show 2 ≤ big by decide), wp_F (wp_A (wp_V rfl (wp_A (wp_C (wp_N ⟨rfl, ?_⟩)))))⟩)))))))))))⟩
    refine (p_law_take hs1 (by omega) (by decide)).imp ?_
    rintro _ S2 ⟨v, rfl, v1, v2, hs2⟩
    obtain ⟨k, hk1, hk2, hix⟩ : ∃ k : Int, 4 ≤ k ∧ k ≤ 13 ∧ dIx S2 (.lst [.int 4, .int 13]) (.int v) = some (.int k) := by
      have : v = 0 ∨ v = 1 := by omega
      rcases this with rfl | rfl
      · exact ⟨4, by decide, by decide, rfl⟩
      · exact ⟨13, by decide, by decide, rfl⟩
    refine ⟨_, hix, wp_N ⟨rfl, (p_law_take hs2 (by omega) ?_).imp ?_⟩⟩
    · have h0 : k.natAbs ≠ 0 := by omega
      have := (Nat.log2_lt (k := 10) h0).mpr (by omega)
      omega
    · rintro _ S3 ⟨u, rfl, u1, u2, hs3⟩
      exact ⟨hs3, ⟨u, rfl, u1, by omega⟩, rfl⟩
  intro ys S1 hs1 hl hp
  obtain ⟨zs, rfl, hz⟩ := lift_map D.int (fun x => 0 ≤ x ∧ x ≤ 12) ys hp
  obtain ⟨a, b, c, rfl⟩ : ∃ a b c : Int, zs = [a, b, c] := by
    rw [List.length_map, List.length_map] at hl
    match zs, hl with
    | [a, b, c], _ => exact ⟨a, b, c, rfl⟩
  obtain ⟨n, rfl, hn⟩ : ∃ n : Nat, a = n ∧ n ≤ 12 := ⟨a.toNat, by have := hz a (by simp); omega, by have := hz a (by simp); omega⟩
  obtain ⟨m, rfl, hm⟩ : ∃ n : Nat, b = n ∧ n ≤ 12 := ⟨b.toNat, by have := hz b (by simp); omega, by have := hz b (by simp); omega⟩
  obtain ⟨w, rfl, hw⟩ : ∃ n : Nat, c = n ∧ n ≤ 12 := ⟨c.toNat, by have := hz c (by simp); omega, by have := hz c (by simp); omega⟩
  clear hz hp hl
  refine ⟨_, rfl, ?_⟩
  -- v, w, c
  refine wp_Seq (wp_sT (wp_T (wp_A (wp_F (wp_A (wp_V rfl (wp_A (wp_V rfl (wp_N ⟨rfl, (p_law_row (n := n) (by omega) hs1).imp ?_⟩)))))))))
  rintro _ S2 ⟨v, rfl, lv, bv, hs2⟩
  refine wp_A (wp_F (wp_A (wp_V rfl (wp_A (wp_V rfl (wp_N ⟨rfl, (p_law_row (n := n) (by omega) hs2).imp ?_⟩))))))
  rintro _ S3 ⟨u, rfl, lu, bu, hs3⟩
  refine wp_N ⟨rfl, (show 2 ≤ big by decide), _, rfl, ?_⟩
  refine wp_Seq (wp_sA (wp_I (wp_F (wp_A (wp_V rfl (wp_A (wp_C (wp_N ⟨rfl, (p_law_row (n := 1) (by omega) hs3).imp ?_⟩))))))))
  rintro _ S4 ⟨cs, rfl, lc, bc, hs4⟩
  obtain ⟨c, rfl⟩ : ∃ c, cs = [c] := by
    match cs, lc with
    | [c], _ => exact ⟨c, rfl⟩
  have hc : sm c := bd_sm (n := 60) bc (by decide) (by decide) c (by simp)
  refine wp_C ⟨.int c, rfl, rfl, ?_⟩
  have sv : ∀ x ∈ v, sm x := bd_sm (n := 60) bv (by decide) (by decide)
  have su : ∀ x ∈ u, sm x := bd_sm (n := 60) bu (by decide) (by decide)
  -- add, scaled
  refine wp_Seq <| wp_sIf <| wp_tOr <| wp_tV <| wp_2 <| honest_F <| wp_F <| wp_A <| wp_V rfl <| wp_A <| wp_V rfl <| wp_N ⟨rfl, wp.of (p_add (v := v) (w := u) (by omega) (by omega)) ⟨cl_row 2 (by unfold addZ; simp; omega), ?_⟩⟩
  have hadd : eB (f1 dTuple) (aC (eL (lLc (iR1 (eV 2)) (gN 11) tY (e2 dAdd (eIx (eV 5) (eV 11)) (eIx (eV 6) (eV 11))) [11])) aN) [some (.scr (ns.map D.int)), some .st, some (.int n), some (.int m), some (.int w), some (row v), some (row u), some (.int c), none, none, none, none, none, none] = ret (row (addZ v u)) :=
    eB_ret (aC_ret (eL_ret (lLc_r1 (fun k => .int (v.getD k 0 + u.getD k 0)) (eV_at rfl) (by omega) fun k hk => ⟨e2_ret (eIx_ret (eV_at rfl) (eV_at rfl) fun _ => dIx_row (by omega)) (eIx_ret (eV_at rfl) (eV_at rfl) fun _ => dIx_row (by omega)) rfl, rfl⟩)) aN_ret) (by unfold addZ; rw [← map_row, lv]; rfl)
  refine wp.of hadd ⟨_, dNe_self (n := 1) (by omega) (okN_row 0 _), false, rfl, fun _ => ?_, fun e => by cases e⟩
  refine wp_tV <| wp_2 <| honest_F <| wp_F <| wp_A <| wp_V rfl <| wp_A <| wp_V rfl <| wp_N ⟨rfl, wp.of (p_scaled (v := v) (c := c) (by omega) sv hc) ⟨cl_row 2 (by unfold scaledZ; rw [List.length_map]; omega), ?_⟩⟩
  have hsc : eB (f1 dTuple) (aC (eL (lLc (iR1 (eV 2)) (gN 11) tY (e2 dMul (eV 7) (eIx (eV 5) (eV 11))) [11])) aN) [some (.scr (ns.map D.int)), some .st, some (.int n), some (.int m), some (.int w), some (row v), some (row u), some (.int c), none, none, none, none, none, none] = ret (row (scaledZ v c)) :=
    eB_ret (aC_ret (eL_ret (lLc_r1 (fun k => .int (c * v.getD k 0)) (eV_at rfl) (by omega) fun k hk => ⟨e2_ret (eV_at rfl) (eIx_ret (eV_at rfl) (eV_at rfl) fun _ => dIx_row (by omega)) (mul_sm hc (sm_getD sv k)), rfl⟩)) aN_ret) (by
      have : scaledZ v c = (List.range n).map fun k => c * v.getD k 0 := by
        unfold scaledZ
        have e : v = (List.range v.length).map fun k => v.getD k 0 := (self_range v).symm
        rw [← lv]
        conv => lhs; rw [e]
        rw [List.map_map]; rfl
      rw [this, ← map_row]; rfl)
  refine wp.of hsc ⟨_, dNe_self (n := 1) (by omega) (okN_row 0 _), false, rfl, fun e => by (cases e), fun _ => wp_Skip ?_⟩
  -- dot
  refine wp_Seq <| wp_sIf <| wp_tV <| wp_2 <| honest_F <| wp_F <| wp_A <| wp_V rfl <| wp_A <| wp_V rfl <| wp_N ⟨rfl, wp.of (p_dot (v := v) (w := u) (by omega) (by omega) sv su) ⟨.int 3 _, ?_⟩⟩
  have hdot : eB (f1 dSum) (aC (eL (lLc (iR1 (eV 2)) (gN 11) tY (e2 dMul (eIx (eV 5) (eV 11)) (eIx (eV 6) (eV 11))) [11])) aN) [some (.scr (ns.map D.int)), some .st, some (.int n), some (.int m), some (.int w), some (row v), some (row u), some (.int c), none, none, none, none, none, none] = ret (.int (dotZ v u)) :=
    eB_ret (aC_ret (eL_ret (lLc_r1 (fun k => .int (v.getD k 0 * u.getD k 0)) (eV_at rfl) (by omega) fun k hk => ⟨e2_ret (eIx_ret (eV_at rfl) (eV_at rfl) fun _ => dIx_row (by omega)) (eIx_ret (eV_at rfl) (eV_at rfl) fun _ => dIx_row (by omega)) (mul_sm (sm_getD sv k) (sm_getD su k)), rfl⟩)) aN_ret) (by
      show dSum (.lst _) = _
      have : ((List.range n).map fun k => D.int (v.getD k 0 * u.getD k 0)) = ((List.range v.length).map fun k => v.getD k 0 * u.getD k 0).map D.int := by rw [List.map_map, lv]; rfl
      rw [this, dSum_map]; rfl)
  refine wp.of hdot ⟨_, dNe_self (n := 1) (by omega) (okN_int 1 _), false, rfl, fun e => by (cases e), fun _ => wp_Skip ?_⟩
  -- one, two
  have hrows : ∀ (k : Nat) (S : List D) (ρ : DE) (i : Nat) (a b : DE → M D) (Q : List D → List D → Prop) (n' : Nat), St S → n' ≤ 12 → k ≤ 12 → a ρ = ret (.int n') → (∀ j : Nat, eV 1 ((wipeD ρ [11]).set 11 (some (.int j))) = ret .st ∧ b ((wipeD ρ [11]).set 11 (some (.int j))) = ret (.int k)) →
      (∀ (rs : List (List Int)) S', St S' → rs.length = n' → (∀ r ∈ rs, r.length = k ∧ bd (10 ^ 15) r) → Q (rs.map row) S') → wp (lLc (iR1 a) (gN 11) tY (eFn m_law_row (aC (eV 1) (aC b aN))) [11] ρ) S Q := by
    intro k S ρ i a b Q n' hs hn' hk ha hb hQ
    refine wp_Lc St (fun d => ∃ r, d = row r ∧ (r.length = k ∧ bd (10 ^ 15) r)) (wp_R1 (n := n') (wp.of ha ⟨rfl, by omega, by simp; omega, hs, ?_, ?_⟩))
    · intro x hx S1 hs1
      obtain ⟨j, _, rfl⟩ := List.mem_map.mp hx
      refine ⟨_, rfl, wp_F <| wp_A <| wp.of (hb j).1 <| wp_A <| wp.of (hb j).2 <| wp_N ⟨rfl, (p_law_row (by omega) hs1).imp ?_⟩⟩
      rintro _ S2 ⟨r, rfl, h1, h2, h3⟩
      exact ⟨h3, ⟨r, rfl, h1, h2⟩, rfl⟩
    · intro ys S1 hs1 hl hp
      obtain ⟨rs, rfl, hr⟩ := lift_map row (fun r => r.length = k ∧ bd (10 ^ 15) r) ys hp
      exact hQ rs S1 hs1 (by simpa using hl) hr
  refine wp_Seq <| wp_sA <| wp_L <| hrows m S4 _ 0 _ _ _ n hs4 hn hm rfl (fun j => ⟨rfl, rfl⟩) fun one S5 hs5 lo ho => ⟨rfl, ?_⟩
  refine wp_Seq <| wp_sA <| wp_L <| hrows w S5 _ 0 _ _ _ m hs5 hm hw rfl (fun j => ⟨rfl, rfl⟩) fun two S6 hs6 lt ht => ⟨rfl, ?_⟩
  have so : ∀ r ∈ one, ∀ z ∈ r, sm z := fun r hr => bd_sm (n := 60) (ho r hr).2 (by decide) (by decide)
  have st : ∀ r ∈ two, ∀ z ∈ r, sm z := fun r hr => bd_sm (n := 60) (ht r hr).2 (by decide) (by decide)
  -- due
  have O : matOf (.lst (one.map row)) one := .inl rfl
  have W : matOf (.lst (two.map row)) two := .inl rfl
  have hdue : m_law_times [.lst (one.map row), .lst (two.map row), .int w] = ret (.lst ((one.map fun a => mvZ a two w).map row)) :=
    p_law_times O W (fun a ha => by rw [lt, (ho a ha).1]; omega) (by omega) (by omega) (by omega) (fun r hr => by rw [(ht r hr).1]; omega) so st
  refine wp_Seq <| wp_sA <| wp_F <| wp_A <| wp_V rfl <| wp_A <| wp_V rfl <| wp_A <| wp_V rfl <| wp_N ⟨rfl, wp.of hdue ⟨rfl, ?_⟩⟩
  -- moved(v, one)
  refine wp_Seq <| wp_sIf <| wp_tV <| wp_2 <| honest_F <| wp_F <| wp_A <| wp_V rfl <| wp_A <| wp_F <| wp_A <| wp_V rfl <| wp_A <| wp_V rfl <| wp_N ⟨rfl, (p_law_given (rs := one) rfl (by omega) hs6).imp ?_⟩
  rintro R S7 ⟨hR, hs7⟩
  have hmv : ∀ {R : D}, matOf R one → m_moved [row v, R, .int m] = ret (row (mvZ v one m)) := fun hR => p_moved hR (by omega) (by omega) (by omega) (fun r hr => by rw [(ho r hr).1]; omega) sv so
  have back1 : ∀ (S : List D) (d : D), wp (eC d []) S fun a S' => a = d ∧ S' = S := fun S d => wp_C ⟨rfl, rfl⟩
  refine wp_A <| wp_V rfl <| wp_N ⟨by rcases hR with e | e <;> rw [e] <;> rfl, wp.of (hmv hR) ⟨cl_row 2 (by rw [mvZ_len]; omega), ?_⟩⟩
  have V1 : matOf (.lst [row v]) [v] := .inl rfl
  have hlt : m_law_times [.lst [row v], .lst (one.map row), .int m] = ret (.lst (([v].map fun a => mvZ a one m).map row)) :=
    p_law_times V1 O (fun a ha => by simp at ha; subst ha; omega) (by simp) (by omega) (by omega) (fun r hr => by rw [(ho r hr).1]; omega) (fun a ha => by simp at ha; subst ha; exact sv) so
  refine wp_I <| wp_F <| wp_A <| wp_L <| wp_lL <| wp_A <| wp_V rfl <| wp_N ⟨rfl, (show 1 ≤ big by decide), wp_A <| wp_V rfl <| wp_A <| wp_V rfl <| wp_N ⟨rfl, wp.of hlt <| wp_C ⟨row (mvZ v one m), rfl, ?_⟩⟩⟩
  refine ⟨_, dNe_self (n := 1) (by omega) (okN_row 0 _), false, rfl, fun e => by (cases e), fun _ => wp_Skip ?_⟩
  -- times
  refine wp_Seq <| wp_sIf <| wp_tV <| wp_2 <| honest_F <| wp_F <| wp_A <| wp_F <| wp_A <| wp_V rfl <| wp_A <| wp_V rfl <| wp_N ⟨rfl, (p_law_given (rs := one) rfl (by omega) hs7).imp ?_⟩
  rintro A S8 ⟨hA, hs8⟩
  refine wp_A <| wp_F <| wp_A <| wp_V rfl <| wp_A <| wp_V rfl <| wp_N ⟨rfl, (p_law_given (rs := two) rfl (by omega) hs8).imp ?_⟩
  rintro B S9 ⟨hB, hs9⟩
  refine wp_A <| wp_V rfl <| wp_N ⟨by rcases hA with e | e <;> rcases hB with e' | e' <;> rw [e, e'] <;> rfl, wp.of (p_times hA hB (fun a ha => by rw [lt, (ho a ha).1]; omega) (by omega) (by omega) (by omega) (fun r hr => by rw [(ht r hr).1]; omega) so st) ⟨cl_tab 1 (by rw [List.length_map]; omega) (fun r hr => by obtain ⟨a, _, rfl⟩ := List.mem_map.mp hr; rw [mvZ_len]; omega), ?_⟩⟩
  refine wp_B <| wp_A <| wp_V rfl <| wp_N ⟨_, rfl, _, dNe_self (n := 2) (by omega) (okN_tab 0 _), false, rfl, fun e => by (cases e), fun _ => wp_Skip ?_⟩
  -- moved twice
  have bmv : bd (one.length * (10 ^ 15 * 10 ^ 15)) (mvZ v one m) := mvZ_bd bv (fun r hr => (ho r hr).2) m
  have smv : ∀ z ∈ mvZ v one m, sm z := bd_sm (n := 200) bmv (Nat.lt_of_le_of_lt (Nat.mul_le_mul_right _ (show one.length ≤ 12 by omega)) (by decide)) (by decide)
  have sdue : ∀ r ∈ one.map (fun a => mvZ a two w), ∀ z ∈ r, sm z := fun r hr => by
    obtain ⟨a, ha, rfl⟩ := List.mem_map.mp hr
    exact bd_sm (n := 200) (mvZ_bd (ho a ha).2 (fun r hr => (ht r hr).2) w) (Nat.lt_of_le_of_lt (Nat.mul_le_mul_right _ (show two.length ≤ 12 by omega)) (by decide)) (by decide)
  refine wp_Seq <| wp_sIf <| wp_tOr <| wp_tV <| wp_2 <| honest_F <| wp_F <| wp_A <| honest_F <| wp_F <| wp_A <| wp_V rfl <| wp_A <| wp_V rfl <| wp_A <| wp_V rfl <| wp_N ⟨rfl, wp.of (hmv O) ⟨cl_row 2 (by rw [mvZ_len]; omega), ?_⟩⟩
  refine wp_A <| wp_V rfl <| wp_A <| wp_V rfl <| wp_N ⟨rfl, wp.of (p_moved (x := mvZ v one m) (w := w) W (by rw [mvZ_len]; omega) (by omega) (by omega) (fun r hr => by rw [(ht r hr).1]; omega) smv st) ⟨cl_row 2 (by rw [mvZ_len]; omega), ?_⟩⟩
  have Du : matOf (.lst ((one.map fun a => mvZ a two w).map row)) (one.map fun a => mvZ a two w) := .inl rfl
  refine honest_F <| wp_F <| wp_A <| wp_V rfl <| wp_A <| wp_V rfl <| wp_A <| wp_V rfl <| wp_N ⟨rfl, wp.of (p_moved (x := v) (w := w) Du (by rw [List.length_map]; omega) (by rw [List.length_map]; omega) (by omega) (fun r hr => by obtain ⟨a, _, rfl⟩ := List.mem_map.mp hr; rw [mvZ_len]; omega) sv sdue) ⟨cl_row 2 (by rw [mvZ_len]; omega), ?_⟩⟩
  have hass : mvZ (mvZ v one m) two w = mvZ v (one.map fun a => mvZ a two w) w := by rw [← lt]; exact mv_mv
  rw [hass]
  refine ⟨_, dNe_self (n := 1) (by omega) (okN_row 0 _), false, rfl, fun _ => ?_, fun e => by (cases e)⟩
  -- the unit matrix
  have hunit : m_unit_matrix [.int m] = ret (.tup (((List.range m).map (unitZ m)).map row)) := by
    rw [p_unit_matrix (by omega), List.map_map]; rfl
  have U : matOf (.tup (((List.range m).map (unitZ m)).map row)) ((List.range m).map (unitZ m)) := .inr rfl
  have lu' : ∀ r ∈ (List.range m).map (unitZ m), r.length = m := fun r hr => by
    obtain ⟨i, _, rfl⟩ := List.mem_map.mp hr
    unfold unitZ; simp
  have su' : ∀ r ∈ (List.range m).map (unitZ m), ∀ z ∈ r, sm z := fun r hr z hz => by
    obtain ⟨i, _, rfl⟩ := List.mem_map.mp hr
    unfold unitZ at hz
    obtain ⟨k, _, rfl⟩ := List.mem_map.mp hz
    split
    · exact sm_of (n := 2) (by decide) (by omega)
    · exact sm_of (n := 2) (by decide) (by omega)
  refine wp_tV <| wp_2 <| honest_F <| wp_F <| wp_A <| wp_V rfl <| wp_A <| honest_F <| wp_F <| wp_A <| wp_V rfl <| wp_N ⟨rfl, wp.of hunit ⟨cl_tab 1 (by simp; omega) (fun r hr => by rw [lu' r hr]; omega), ?_⟩⟩
  refine wp_A <| wp_V rfl <| wp_N ⟨rfl, wp.of (p_times (w := m) O U (fun a ha => by rw [(ho a ha).1]; simp) (by omega) (by simp; omega) (by omega) (fun r hr => by rw [lu' r hr]; omega) so su') ⟨cl_tab 1 (by rw [List.length_map]; omega) (fun r hr => by obtain ⟨a, _, rfl⟩ := List.mem_map.mp hr; rw [mvZ_len]; omega), ?_⟩⟩
  have huo : (one.map fun a => mvZ a ((List.range m).map (unitZ m)) m) = one := by
    conv => rhs; rw [← List.map_id one]
    apply List.map_congr_left
    intro a ha
    exact mv_unit (ho a ha).1
  rw [huo]
  refine wp_B <| wp_A <| wp_V rfl <| wp_N ⟨_, rfl, _, dNe_self (n := 2) (by omega) (okN_tab 0 _), false, rfl, fun e => by (cases e), fun _ => wp_Skip ?_⟩
  -- transposed
  refine wp_sR <| wp_2 <| honest_F <| wp_F <| wp_A <| wp_F <| wp_A <| wp_V rfl <| wp_A <| wp_V rfl <| wp_N ⟨rfl, (p_law_given (rs := two) rfl (by omega) hs9).imp ?_⟩
  rintro C S10 ⟨hC, hs10⟩
  refine wp_A <| wp_V rfl <| wp_N ⟨by rcases hC with e | e <;> rw [e] <;> rfl, wp.of (p_transposed hC (by omega) (by omega) (fun r hr => by rw [(ht r hr).1]; omega)) ⟨cl_tab 1 (by unfold trZ; simp; omega) (fun r hr => by
    unfold trZ at hr
    obtain ⟨a, _, rfl⟩ := List.mem_map.mp hr; rw [List.length_map]; omega), ?_⟩⟩
  refine wp.of (eB_ret (d := .tup ((trZ two w).map row)) (aC_ret (eL_ret (lLc_r1 (fun j => row (two.map fun r => r.getD j 0)) (eV_at rfl) (by omega) fun j hj => ⟨col_ret (j := j) W (by omega) (eV_at rfl) fun r hr => eIx_ret (eV_at rfl) (eV_at rfl) fun _ => dIx_row (by have := (ht r hr).1; omega), rfl⟩)) aN_ret) (by
    show some (D.tup _) = _
    unfold trZ
    rw [List.map_map]; rfl)) ⟨_, dEq_self (n := 2) (by omega) (okN_tab 0 _), rfl, rfl⟩
end K01

namespace K01
open PySem PySem.Spec PyProof.Rows L2 DL
/-- the law's promise -/
def spLaw (K : PySem.W.Frag) : Sp := fun vs H Q _ => ∃ (a : Addr) (ns : List Int), vs = [.ref a] ∧ SqL K H a (ns.map V.int) ∧ ns.length ≤ 63 ∧ (∀ z ∈ ns, Builtin.Int.intBits z ≤ 1048576) ∧ ∀ H', Q (.bl true) H'
theorem rps_ints {K : PySem.W.Frag} {mg : Str → Option Value} {F : Hp} : ∀ ns : List Int, Rps K mg F (ns.map V.int) (ns.map D.int)
  | [] => .nil
  | n :: ns => .cons (.int n) (rps_ints ns)
theorem sp_of {K : PySem.W.Frag} {mg : Str → Option Value} : ∀ vs H Q E, spLaw K vs H Q E → spD K mg 1 m_law vs H Q E := by
  rintro vs H Q E ⟨a, ns, rfl, hS, hl, hb, k⟩
  refine ⟨rfl, none, H, [.st], [.scr (ns.map D.int)], Evl.Ex.refl H, ⟨fun p hp => by (cases hp), fun _ => rfl⟩, .cons (.inl (.scr hS (rps_ints ns))) .nil, ?_⟩
  rw [law_true ns hl hb]
  intro F' H' _ _ v hv
  cases hv
  exact k H' 
theorem all {l : PySem.W.OpenLaw} {w : World} {K : PySem.W.Frag} {h : Heap} {mg : Str → Option Value} {fa : Addr} (X : K.In h) (G : h.Ns mainGlobals mg) (hfa : mg "law" = some (.ref fa)) (T : Blt mg)
    (D_unit_row : Df K "unit_row" fn_unit_row) (D_unit_matrix : Df K "unit_matrix" fn_unit_matrix) (D_add : Df K "add" fn_add) (D_scaled : Df K "scaled" fn_scaled) (D_dot : Df K "dot" fn_dot) (D_moved : Df K "moved" fn_moved) (D_times : Df K "times" fn_times) (D_transposed : Df K "transposed" fn_transposed) (D_law_state : Df K "_law_state" fn_law_state) (D_law_odd : Df K "_law_odd" fn_law_odd) (D_law_honest : Df K "_law_honest" fn_law_honest) (D_law_take : Df K "_law_take" fn_law_take) (D_law_times : Df K "_law_times" fn_law_times) (D_law_row : Df K "_law_row" fn_law_row) (D_law_given : Df K "_law_given" fn_law_given) (D_law : Df K "law" fn_law) :
    ∃ fd : FuncData, (∀ (s : Shared) (v : Value), BindsTo s fd ⟨[v], []⟩ [("script", v)]) ∧ ∀ base : Heap, K.In base → base.Ns mainGlobals mg → FnOk l.prog w K mg base CX0 6 fa fd ["script"] (spLaw K) := by
  obtain ⟨f, oc, od, an, osl, kV, doc, pm, cdv, ct, a, lk, c, kp⟩ := D_law
  have e := hfa.symm.trans (PySem.W.mg_of X G a)
  cases e
  refine ⟨PySem.W.fnOf "law" "law" (defArgs fn_law) (defBody fn_law) (defScope fn_law) .none kV doc pm an cdv ct, fun s v => .of_eq rfl, fun base _ _ => ?_⟩
  have C_unit_row : Cal l.prog w K mg base "unit_row" 1 2 m_unit_row := D_unit_row.cal (pn := ["n", "i"]) X G (fun _ _ _ _ _ _ _ us hl => match us, hl with | [_, _], _ => rfl) runP_len (fun f fd F => ok_unit_row F T )
  have C_unit_matrix : Cal l.prog w K mg base "unit_matrix" 2 1 m_unit_matrix := D_unit_matrix.cal (pn := ["n"]) X G (fun _ _ _ _ _ _ _ us hl => match us, hl with | [_], _ => rfl) runP_len (fun f fd F => ok_unit_matrix F T C_unit_row)
  have C_add : Cal l.prog w K mg base "add" 1 2 m_add := D_add.cal (pn := ["v", "w"]) X G (fun _ _ _ _ _ _ _ us hl => match us, hl with | [_, _], _ => rfl) runP_len (fun f fd F => ok_add F T )
  have C_scaled : Cal l.prog w K mg base "scaled" 1 2 m_scaled := D_scaled.cal (pn := ["v", "c"]) X G (fun _ _ _ _ _ _ _ us hl => match us, hl with | [_, _], _ => rfl) runP_len (fun f fd F => ok_scaled F T )
  have C_dot : Cal l.prog w K mg base "dot" 1 2 m_dot := D_dot.cal (pn := ["v", "w"]) X G (fun _ _ _ _ _ _ _ us hl => match us, hl with | [_, _], _ => rfl) runP_len (fun f fd F => ok_dot F T )
  have C_moved : Cal l.prog w K mg base "moved" 1 3 m_moved := D_moved.cal (pn := ["x", "rows", "width"]) X G (fun _ _ _ _ _ _ _ us hl => match us, hl with | [_, _, _], _ => rfl) runP_len (fun f fd F => ok_moved F T )
  have C_times : Cal l.prog w K mg base "times" 2 3 m_times := D_times.cal (pn := ["one", "two", "width"]) X G (fun _ _ _ _ _ _ _ us hl => match us, hl with | [_, _, _], _ => rfl) runP_len (fun f fd F => ok_times F T C_moved)
  have C_transposed : Cal l.prog w K mg base "transposed" 1 2 m_transposed := D_transposed.cal (pn := ["rows", "width"]) X G (fun _ _ _ _ _ _ _ us hl => match us, hl with | [_, _], _ => rfl) runP_len (fun f fd F => ok_transposed F T )
  have C_law_state : CalL l.prog w K mg base "_law_state" 1 1 m_law_state := D_law_state.calL (pn := ["script"]) X G (fun _ _ _ _ _ _ _ us hl => match us, hl with | [_], _ => rfl) runLP_len (fun f fd F => ok_law_state F T )
  have C0_law_odd : Cal l.prog w K mg base "_law_odd" 0 1 (m_law_odd 0) := D_law_odd.cal (pn := ["value"]) X G (fun _ _ _ _ _ _ _ us hl => match us, hl with | [_], _ => rfl) (fun _ _ _ => rfl) (fun f fd F => cal_bad)
  have C1_law_odd : Cal l.prog w K mg base "_law_odd" 1 1 (m_law_odd 1) := D_law_odd.cal (pn := ["value"]) X G (fun _ _ _ _ _ _ _ us hl => match us, hl with | [_], _ => rfl) runP_len (fun f fd F => ok_law_odd_step F T  C0_law_odd)
  have C2_law_odd : Cal l.prog w K mg base "_law_odd" 2 1 (m_law_odd 2) := D_law_odd.cal (pn := ["value"]) X G (fun _ _ _ _ _ _ _ us hl => match us, hl with | [_], _ => rfl) runP_len (fun f fd F => ok_law_odd_step F T  C1_law_odd)
  have C3_law_odd : Cal l.prog w K mg base "_law_odd" 3 1 (m_law_odd 3) := D_law_odd.cal (pn := ["value"]) X G (fun _ _ _ _ _ _ _ us hl => match us, hl with | [_], _ => rfl) runP_len (fun f fd F => ok_law_odd_step F T  C2_law_odd)
  have C4_law_odd : Cal l.prog w K mg base "_law_odd" 4 1 (m_law_odd 4) := D_law_odd.cal (pn := ["value"]) X G (fun _ _ _ _ _ _ _ us hl => match us, hl with | [_], _ => rfl) runP_len (fun f fd F => ok_law_odd_step F T  C3_law_odd)
  have C_law_odd := C4_law_odd
  have C_law_honest : Cal l.prog w K mg base "_law_honest" 5 1 m_law_honest := D_law_honest.cal (pn := ["value"]) X G (fun _ _ _ _ _ _ _ us hl => match us, hl with | [_], _ => rfl) runP_len (fun f fd F => ok_law_honest F T C_law_odd)
  have C_law_take : Cal l.prog w K mg base "_law_take" 1 2 m_law_take := D_law_take.cal (pn := ["state", "m"]) X G (fun _ _ _ _ _ _ _ us hl => match us, hl with | [_, _], _ => rfl) runP_len (fun f fd F => ok_law_take F T )
  have C_law_times : Cal l.prog w K mg base "_law_times" 1 3 m_law_times := D_law_times.cal (pn := ["a", "b", "width"]) X G (fun _ _ _ _ _ _ _ us hl => match us, hl with | [_, _, _], _ => rfl) runP_len (fun f fd F => ok_law_times F T )
  have C_law_row : Cal l.prog w K mg base "_law_row" 2 2 m_law_row := D_law_row.cal (pn := ["state", "n"]) X G (fun _ _ _ _ _ _ _ us hl => match us, hl with | [_, _], _ => rfl) runP_len (fun f fd F => ok_law_row F T C_law_take)
  have C_law_given : Cal l.prog w K mg base "_law_given" 2 2 m_law_given := D_law_given.cal (pn := ["state", "rows"]) X G (fun _ _ _ _ _ _ _ us hl => match us, hl with | [_, _], _ => rfl) runP_len (fun f fd F => ok_law_given F T C_law_take)
  exact (ok_law (fun_mk (st := fn_law) lk c kp) T C_law_given C_law_honest C_law_row C_law_state C_law_take C_law_times C_add C_dot C_moved C_scaled C_times C_transposed C_unit_matrix).imp sp_of
theorem walk {l : PySem.W.OpenLaw} {q : Program} {loose : List Str} {XP : (Str → Option Value) → Heap → Prop} {YP : World → Heap → Prop} {d : DefRec} {K : Params → PySem.W.Frag} (hn : l.most = some 63) (hdf : d.params.defaults = [])
    (hY : ∀ (w : World) (h : Heap), YP w h → (K w.params).In h)
    (F : ∀ (w : World) (mg : Str → Option Value) (fa : Addr) (h : Heap), (K w.params).In h → h.Ns mainGlobals mg → mg d.name = some (.ref fa) →
      ∃ fd : FuncData, (∀ (s : Shared) (u : Value), BindsTo s fd ⟨[u], []⟩ [("script", u)]) ∧ ∀ base : Heap, (K w.params).In base → base.Ns mainGlobals mg → FnOk l.prog w (K w.params) mg base CX0 6 fa fd ["script"] (spLaw (K w.params))) :
    PySem.W.WalkO q loose XP YP l.row.toRowW d [] (fun f vs => PySem.call f vs) :=
  L2.walk_ofB (n := 63) (k := 6) (x := "script") (CX := fun _ => CX0) (sp := fun w => spLaw (K w.params)) hn (by decide) hdf ⟨rfl, by decide, by decide⟩ hY F (fun _ _ a ns hl hb _ hS => ⟨a, ns, rfl, hS, hl, hb, fun _ => rfl⟩) fun _ _ _ _ _ z => z
end K01
open PySem PySem.W PyProof.Rows
set_option maxRecDepth 100000 in
set_option maxHeartbeats 0 in
theorem PySem.Challenge.cw_cyclebounds_k01_rows_and_products_holds : PySem.Challenge.rw_cyclebounds_k01_rows_and_products.Holds := by
  w_on; o_law; k_head; (case hw => w_witness2)
  k_fill
  refine K01.walk (l := PySem.Challenge.rw_cyclebounds_k01_rows_and_products) rfl rfl (fun w h Y => PySem.W.kIn_of Y) ?F
  case F =>
    intro w mg fa h KX G hmg
    refine K01.all KX G hmg ?T ?D_unit_row ?D_unit_matrix ?D_add ?D_scaled ?D_dot ?D_moved ?D_times ?D_transposed ?D_law_state ?D_law_odd ?D_law_honest ?D_law_take ?D_law_times ?D_law_row ?D_law_given ?D_law
    case T =>
      refine' ⟨mg_none_of KX G ?b_abs, mg_none_of KX G ?b_int, mg_none_of KX G ?b_isinstance, mg_none_of KX G ?b_len, mg_none_of KX G ?b_list, mg_none_of KX G ?b_range, mg_none_of KX G ?b_sum, mg_none_of KX G ?b_tuple⟩
      (case b_abs => k_is); (case b_int => k_is); (case b_isinstance => k_is); (case b_len => k_is); (case b_list => k_is); (case b_range => k_is); (case b_sum => k_is); (case b_tuple => k_is)
    case D_unit_row =>
      refine' DL.df_mk ?a ?l ?c ?k
      (case a => k_is); (case l => k_is); (case c => k_is); (case k => k_is)
    case D_unit_matrix =>
      refine' DL.df_mk ?a ?l ?c ?k
      (case a => k_is); (case l => k_is); (case c => k_is); (case k => k_is)
    case D_add =>
      refine' DL.df_mk ?a ?l ?c ?k
      (case a => k_is); (case l => k_is); (case c => k_is); (case k => k_is)
    case D_scaled =>
      refine' DL.df_mk ?a ?l ?c ?k
      (case a => k_is); (case l => k_is); (case c => k_is); (case k => k_is)
    case D_dot =>
      refine' DL.df_mk ?a ?l ?c ?k
      (case a => k_is); (case l => k_is); (case c => k_is); (case k => k_is)
    case D_moved =>
      refine' DL.df_mk ?a ?l ?c ?k
      (case a => k_is); (case l => k_is); (case c => k_is); (case k => k_is)
    case D_times =>
      refine' DL.df_mk ?a ?l ?c ?k
      (case a => k_is); (case l => k_is); (case c => k_is); (case k => k_is)
    case D_transposed =>
      refine' DL.df_mk ?a ?l ?c ?k
      (case a => k_is); (case l => k_is); (case c => k_is); (case k => k_is)
    case D_law_state =>
      refine' DL.df_mk ?a ?l ?c ?k
      (case a => k_is); (case l => k_is); (case c => k_is); (case k => k_is)
    case D_law_odd =>
      refine' DL.df_mk ?a ?l ?c ?k
      (case a => k_is); (case l => k_is); (case c => k_is); (case k => k_is)
    case D_law_honest =>
      refine' DL.df_mk ?a ?l ?c ?k
      (case a => k_is); (case l => k_is); (case c => k_is); (case k => k_is)
    case D_law_take =>
      refine' DL.df_mk ?a ?l ?c ?k
      (case a => k_is); (case l => k_is); (case c => k_is); (case k => k_is)
    case D_law_times =>
      refine' DL.df_mk ?a ?l ?c ?k
      (case a => k_is); (case l => k_is); (case c => k_is); (case k => k_is)
    case D_law_row =>
      refine' DL.df_mk ?a ?l ?c ?k
      (case a => k_is); (case l => k_is); (case c => k_is); (case k => k_is)
    case D_law_given =>
      refine' DL.df_mk ?a ?l ?c ?k
      (case a => k_is); (case l => k_is); (case c => k_is); (case k => k_is)
    case D_law =>
      refine' DL.df_mk ?a ?l ?c ?k
      (case a => k_is); (case l => k_is); (case c => k_is); (case k => k_is)
#print axioms PySem.Challenge.cw_cyclebounds_k01_rows_and_products_holds

