import PyProof.Rows.All
import Wide.All
import OpenK.AllK
import Wide.FinOn
import HandS.ForMost
import HandS.Wide
import PyProof.StrBlock2
import HandS.IsInst
import HandS.TupMul
import HandS.TupAny
import HandS.Conv
import HandS.Zip
import HandS.Evl
import HandS.EndBits
import HandS.ExcIs
import HandS.ExcValue
import HandS.TupLe
import HandS.Style
import HandS.TryOnly
import PySem.Challenge.RW_cyclebounds_k00_integers_and_forms
set_option Elab.async false
set_option linter.all false
set_option maxRecDepth 100000
set_option maxHeartbeats 8000000
/-! The data level: what the walked defs compute, told over plain data, with no heap in sight. -/
namespace DL
open PySem L2

/-- data: a value with all that it holds. scr: a list that is read alone (the script). mu: a local list that is still changed. st: the list `state` that a law hands around. -/
inductive D where
  | non | bl (b : Bool) | int (i : Int) | str (x : Str) | ty (n : String) | glb (n : Str)
  | lst (xs : List D) | tup (xs : List D) | scr (xs : List D)
  | ins (c : Str) (ns : List Str) (ds : List D)
  | mu (xs : List D) | st
  /-- an exception at hand, of the class named c -/
  | exn (c : Str)
instance : Inhabited D := ⟨.non⟩

/-- how a computation ends: bad (nothing is said), a value, an exception of the class named c with the fields fs; with the items of `state` behind it -/
inductive R (α : Type) where
  | bad | ok (a : α) (S : List D) | exc (c : Str) (fs : List (Str × D)) (S : List D)
abbrev M (α : Type) := List D → R α
def ret {α : Type} (a : α) : M α := fun S => .ok a S
def bad {α : Type} : M α := fun _ => .bad
def opt {α : Type} : Option α → M α
  | some a => ret a
  | none => bad
def bnd {α β : Type} (m : M α) (f : α → M β) : M β := fun S => match m S with
  | .bad => .bad
  | .ok a S' => f a S'
  | .exc c fs S' => .exc c fs S'
/-- exceptions are not told -/
def nox {α : Type} (m : M α) : M α := fun S => match m S with
  | .ok a S' => .ok a S'
  | _ => .bad
@[simp] theorem bnd_ret {α β : Type} (a : α) (f : α → M β) : bnd (ret a) f = f a := rfl
@[simp] theorem bnd_bad {α β : Type} (f : α → M β) : bnd bad f = bad := rfl
@[simp] theorem bnd_some {α β : Type} (a : α) (f : α → M β) : bnd (opt (some a)) f = f a := rfl
@[simp] theorem bnd_none {α β : Type} (f : α → M β) : bnd (opt none) f = bad := rfl
@[simp] theorem nox_ret {α : Type} (a : α) : nox (ret a) = ret a := rfl
theorem bnd_ok {α β : Type} {m : M α} {f : α → M β} {S S' : List D} {a : α} (h : m S = .ok a S') : bnd m f S = f a S' := by
  unfold bnd; rw [h]
theorem bnd_exc {α β : Type} {m : M α} {f : α → M β} {S S' : List D} {c : Str} {fs : List (Str × D)} (h : m S = .exc c fs S') : bnd m f S = .exc c fs S' := by
  unfold bnd; rw [h]
theorem nox_ok {α : Type} {m : M α} {S S' : List D} {a : α} (h : m S = .ok a S') : nox m S = .ok a S' := by
  unfold nox; rw [h]
theorem bnd_assoc {α β γ : Type} (m : M α) (f : α → M β) (g : β → M γ) : bnd (bnd m f) g = bnd m fun a => bnd (f a) g := by
  funext S; unfold bnd; cases m S <;> rfl

/-! ### plain data -/
mutual
def toPy : D → Option PyData
  | .non => some .none
  | .bl b => some (.bool b)
  | .int i => some (.int i)
  | .str x => some (.str x)
  | .lst xs => (toPys xs).map .list
  | .tup xs => (toPys xs).map .tuple
  | _ => none
def toPys : List D → Option (List PyData)
  | [] => some []
  | x :: xs => match toPy x, toPys xs with
    | some d, some ds => some (d :: ds)
    | _, _ => none
end
/-- a value that may be kept: no list that is still changed -/
def dat : D → Bool
  | .mu _ => false
  | .st => false
  | _ => true

/-! ### operators -/
def big : Nat := 100000
def dAdd : D → D → Option D
  | .int a, .int b => some (.int (a + b))
  | .str a, .str b => if a.length + b.length ≤ big then some (.str (a ++ b)) else none
  | .tup a, .tup b => if a.length + b.length ≤ big then some (.tup (a ++ b)) else none
  | .lst a, .lst b => if a.length + b.length ≤ big then some (.lst (a ++ b)) else none
  | _, _ => none
def dSub : D → D → Option D
  | .int a, .int b => some (.int (a - b))
  | _, _ => none
def mulOk (a b : Int) : Bool := decide (a.natAbs.log2 + b.natAbs.log2 < 1000000) || (decide (-(2 ^ 64) < b) && decide (b < 2 ^ 64))
def dMul : D → D → Option D
  | .int a, .int b => if mulOk a b then some (.int (a * b)) else none
  | .lst xs, .int k => if k ≤ 100000 ∧ -100000 ≤ k ∧ xs.length * k.toNat ≤ 100000 then some (.lst (List.replicate k.toNat xs).flatten) else none
  | .tup xs, .int k => if k ≤ 1000 ∧ -1000 ≤ k ∧ xs.length ≤ 1000 then some (.tup (List.replicate k.toNat xs).flatten) else none
  | .str z, .int k => if k ≤ 1000 ∧ -1000 ≤ k ∧ z.length ≤ 1000 then some (.str (Txt.mul z k)) else none
  | _, _ => none
def dFdiv : D → D → Option D
  | .int a, .int b => if 0 < b ∧ b.natAbs.log2 < 9000 then some (.int (a / b)) else if b < 0 ∧ b.natAbs.log2 < 9000 then some (.int (a.fdiv b)) else none
  | _, _ => none
def dMod : D → D → Option D
  | .int a, .int b => if 0 < b then some (.int (a % b)) else if b < 0 then some (.int (a.fmod b)) else none
  | _, _ => none
def dPow : D → D → Option D
  | .int a, .int b => if 0 ≤ b ∧ b ≤ 1000000 ∧ a.natAbs < 2 ^ 64 then some (.int (a ^ b.toNat)) else none
  | _, _ => none
def dNeg : D → Option D
  | .int a => some (.int (-a))
  | _ => none
def dLt : D → D → Option D
  | .int a, .int b => some (.bl (decide (a < b)))
  | _, _ => none
def dLe : D → D → Option D
  | .int a, .int b => some (.bl (decide (a ≤ b)))
  | _, _ => none
def dGt : D → D → Option D
  | .int a, .int b => some (.bl (decide (b < a)))
  | _, _ => none
def dGe : D → D → Option D
  | .int a, .int b => some (.bl (decide (b ≤ a)))
  | _, _ => none
def dEqB (a b : D) : Option Bool := match toPy a, toPy b with
  | some p, some q => if SeqAt.shaped p && SeqAt.shaped q then some (PyData.eqv p q) else none
  | _, _ => none
def dEq (a b : D) : Option D := match a, b with
  | .int i, .int j => some (.bl (decide (i = j)))
  | a, b => (dEqB a b).map .bl
def dNe (a b : D) : Option D := match a, b with
  | .int i, .int j => some (.bl (!decide (i = j)))
  | a, b => (dEqB a b).map fun x => .bl (!x)
def isNon : D → Bool
  | .non => true
  | _ => false
def dIs (d e : D) : Option D := match e with
  | .non => some (.bl (isNon d))
  | .bl b => match d with
    | .bl a => some (.bl (decide (a = b)))
    | _ => none
  | _ => none
def dIsN (d e : D) : Option D := match e with
  | .non => some (.bl (!isNon d))
  | .bl b => match d with
    | .bl a => some (.bl (!decide (a = b)))
    | _ => none
  | _ => none
/-- the items of what is walked or asked for its length -/
def items : D → Option (List D)
  | .lst xs => some xs
  | .tup xs => some xs
  | .scr xs => some xs
  | .mu xs => some xs
  | _ => none
def dLen : D → Option D
  | .str x => if x.length ≤ big then some (.int x.length) else none
  | d => (items d).map fun xs => .int xs.length
def dAbs : D → Option D
  | .int i => some (.int (if i < 0 then -i else i))
  | _ => none
def dInt : D → Option D
  | .int i => some (.int i)
  | .bl b => some (.int (if b then 1 else 0))
  | _ => none
def dTuple : D → Option D
  | .tup xs => some (.tup xs)
  | d => (items d).map .tup
def dList : D → Option (List D)
  | d => items d
def intOf : D → Option Int
  | .int i => some i
  | _ => none
def intsOf : List D → Option (List Int)
  | [] => some []
  | x :: xs => match intOf x, intsOf xs with
    | some i, some is => some (i :: is)
    | _, _ => none
def boolOf : D → Option Bool
  | .bl b => some b
  | _ => none
def boolsOf : List D → Option (List Bool)
  | [] => some []
  | x :: xs => match boolOf x, boolsOf xs with
    | some i, some is => some (i :: is)
    | _, _ => none
def dSum : D → Option D
  | .lst xs => (intsOf xs).map fun is => .int is.sum
  | _ => none
def dAll : D → Option D
  | .lst xs => (boolsOf xs).map fun bs => .bl (bs.all id)
  | _ => none
def dAny : D → Option D
  | .lst xs => (boolsOf xs).map fun bs => .bl (bs.any id)
  | _ => none
/-- a truth value -/
def dTru : D → Option Bool
  | .non => some false
  | .bl b => some b
  | .int i => some (i != 0)
  | .str x => if x.length ≤ big then some ((x.length : Int) != 0) else none
  | .lst xs => some (!xs.isEmpty)
  | .tup xs => some (!xs.isEmpty)
  | _ => none
def tyName : D → Option String
  | .non => some "NoneType"
  | .bl _ => some "bool"
  | .int _ => some "int"
  | .str _ => some "str"
  | .lst _ => some "list"
  | .mu _ => some "list"
  | .tup _ => some "tuple"
  | .exn _ => some "object"
  | _ => none
def kinds : List String := ["int", "bool", "str", "list", "tuple"]
def isT (a b : String) : Bool := a == b || (a == "bool" && b == "int")
def dIsi (d : D) : D → Option D
  | .ty n => if kinds.contains n then (tyName d).map fun t => .bl (isT t n) else none
  | _ => none
/-- isinstance of a tuple of types -/
def dIsis (ns : List String) (d : D) : Option D := if ns.all kinds.contains && decide (ns.length ≤ 10) then (tyName d).map fun t => .bl (ns.any (isT t)) else none
/-- x[i] -/
def dIx (S : List D) (a i : D) : Option D := match i with
  | .int i => match a with
    | .st => atI S i
    | .str z => if z.length ≤ big then (atI z.cps.toList i).map fun c => .str ⟨#[c]⟩ else none
    | a => (items a).bind fun xs => atI xs i
  | _ => none
def cutD (xs : List D) (lo hi : Option Int) : List D := (xs.drop (HT.sIx xs.length 0 lo)).take (HT.sIx xs.length xs.length hi - HT.sIx xs.length 0 lo)
def dCut (lo hi : Option Int) : D → Option D
  | .tup xs => some (.tup (cutD xs lo hi))
  | .lst xs => some (.lst (cutD xs lo hi))
  | .scr xs => some (.lst (cutD xs lo hi))
  | _ => none

/-! ### expressions: over the def's names by slots -/
abbrev DE := List (Option D)
def eV (i : Nat) : DE → M D := fun ρ => opt (ρ[i]?).join
def eC (d : D) : DE → M D := fun _ => ret d
def e1 (f : D → Option D) (a : DE → M D) : DE → M D := fun ρ => bnd (a ρ) fun x => opt (f x)
def e2 (f : D → D → Option D) (a b : DE → M D) : DE → M D := fun ρ => bnd (a ρ) fun x => bnd (b ρ) fun y => opt (f x y)
def eIx (a b : DE → M D) : DE → M D := fun ρ => bnd (a ρ) fun x => bnd (b ρ) fun y S => opt (dIx S x y) S
/-- argument lists -/
def aN : DE → M (List D) := fun _ => ret []
def aC (a : DE → M D) (r : DE → M (List D)) : DE → M (List D) := fun ρ => bnd (a ρ) fun x => bnd (r ρ) fun xs => ret (x :: xs)
/-- a builtin of its arguments -/
def eB (f : List D → Option D) (a : DE → M (List D)) : DE → M D := fun ρ => bnd (a ρ) fun xs => opt (f xs)
def f1 (f : D → Option D) : List D → Option D
  | [x] => f x
  | _ => none
def f2 (f : D → D → Option D) : List D → Option D
  | [x, y] => f x y
  | _ => none
/-- a def of its arguments -/
def eF (f : List D → M D) (a : DE → M (List D)) : DE → M D := fun ρ => bnd (a ρ) f
def allDat (xs : List D) : Bool := xs.all dat
def eTup (a : DE → M (List D)) : DE → M D := fun ρ => bnd (a ρ) fun xs => if allDat xs && decide (xs.length ≤ big) then ret (.tup xs) else bad
/-- lists that are new: their items -/
def lLst (a : DE → M (List D)) : DE → M (List D) := fun ρ => bnd (a ρ) fun xs => if allDat xs && decide (xs.length ≤ big) then ret xs else bad
def lOf (f : D → Option (List D)) (a : DE → M D) : DE → M (List D) := fun ρ => bnd (a ρ) fun x => opt (f x)
def lRep (a b : DE → M D) : DE → M (List D) := fun ρ => bnd (a ρ) fun x => bnd (b ρ) fun y => match x, y with
  | .lst xs, .int k => if k ≤ 100000 ∧ -100000 ≤ k ∧ xs.length * k.toNat ≤ 100000 then ret (List.replicate k.toNat xs).flatten else bad
  | _, _ => bad
def lCat (a b : DE → M D) : DE → M (List D) := fun ρ => bnd (a ρ) fun x => bnd (b ρ) fun y => match x, y with
  | .lst xs, .lst ys => if xs.length + ys.length ≤ big then ret (xs ++ ys) else bad
  | _, _ => bad
def lCut (lo hi : DE → M (Option Int)) (a : DE → M D) : DE → M (List D) := fun ρ => bnd (a ρ) fun x => bnd (lo ρ) fun l => bnd (hi ρ) fun h => match x with
  | .lst xs => ret (cutD xs l h)
  | .scr xs => ret (cutD xs l h)
  | .mu xs => ret (cutD xs l h)
  | _ => bad
/-- isinstance(x, (T, ..)) -/
def eIsi (ns : List String) (a : DE → M D) : DE → M D := fun ρ => bnd (a ρ) fun x => opt (dIsis ns x)
def oN : DE → M (Option Int) := fun _ => ret none
def oS (a : DE → M D) : DE → M (Option Int) := fun ρ => bnd (a ρ) fun x => match x with
  | .int i => ret (some i)
  | _ => bad
def eCut (lo hi : DE → M (Option Int)) (a : DE → M D) : DE → M D := fun ρ => bnd (a ρ) fun x => bnd (lo ρ) fun l => bnd (hi ρ) fun h => opt (dCut l h x)
/-- X(a), a new exception of the class named c -/
def eExn (c : Str) (a : DE → M D) : DE → M D := fun ρ => bnd (a ρ) fun _ => ret (.exn c)
/-- a new list as a value -/
def eL (l : DE → M (List D)) : DE → M D := fun ρ => bnd (l ρ) fun xs => ret (.lst xs)

def noMu (ds : List D) : Bool := ds.all fun d => match d with
  | .mu _ => false
  | _ => true
def eFn (f : List D → M D) (a : DE → M (List D)) : DE → M D := fun ρ => bnd (a ρ) fun ds => if noMu ds then nox (f ds) else bad
def lFn (f : List D → M (List D)) (a : DE → M (List D)) : DE → M (List D) := fun ρ => bnd (a ρ) fun ds => if noMu ds then nox (f ds) else bad
/-! ### tests -/
def tV (a : DE → M D) : DE → M Bool := fun ρ => bnd (a ρ) fun x => opt (boolOf x)
def tT (a : DE → M D) : DE → M Bool := fun ρ => bnd (a ρ) fun x => opt (dTru x)
def tAn (a b : DE → M Bool) : DE → M Bool := fun ρ => bnd (a ρ) fun x => if x then b ρ else ret false
def tOr' (a b : DE → M Bool) : DE → M Bool := fun ρ => bnd (a ρ) fun x => if x then ret true else b ρ
def tNo (a : DE → M Bool) : DE → M Bool := fun ρ => bnd (a ρ) fun x => ret (!x)
def tY : DE → M Bool := fun _ => ret true
/-- and, or, not as values (of truth values) -/
def eAn (a b : DE → M D) : DE → M D := fun ρ => bnd (a ρ) fun x => match x with
  | .bl true => b ρ
  | .bl false => ret (.bl false)
  | _ => bad
def eOr (a b : DE → M D) : DE → M D := fun ρ => bnd (a ρ) fun x => match x with
  | .bl true => ret (.bl true)
  | .bl false => b ρ
  | _ => bad
def eNo (a : DE → M D) : DE → M D := fun ρ => bnd (a ρ) fun x => match x with
  | .bl b => ret (.bl (!b))
  | _ => bad
def eIf (t : DE → M Bool) (a b : DE → M D) : DE → M D := fun ρ => bnd (t ρ) fun x => if x then a ρ else b ρ

/-! ### what is walked -/
def rngD (lo hi : Int) : List D := (List.range (hi - lo).toNat).map fun i => .int (lo + (i : Nat))
def smallI (i : Int) : Bool := decide (-100000 ≤ i) && decide (i ≤ 100000)
def iR1 (a : DE → M D) : DE → M (List D) := fun ρ => bnd (a ρ) fun x => match x with
  | .int n => if smallI n then ret (rngD 0 n) else bad
  | _ => bad
def iR2 (a b : DE → M D) : DE → M (List D) := fun ρ => bnd (a ρ) fun x => bnd (b ρ) fun y => match x, y with
  | .int m, .int n => if smallI m && smallI n then ret (rngD m n) else bad
  | _, _ => bad
def iSq (a : DE → M D) : DE → M (List D) := fun ρ => bnd (a ρ) fun x => match x with
  | .lst xs => ret xs
  | .scr xs => ret xs
  | .tup xs => ret xs
  | _ => bad
/-- targets -/
def gN (i : Nat) : D → DE → Option DE := fun d ρ => if dat d then some (ρ.set i (some d)) else none
def setAll : List Nat → List D → DE → Option DE
  | [], [], ρ => some ρ
  | i :: is, d :: ds, ρ => if dat d then setAll is ds (ρ.set i (some d)) else none
  | _, _, _ => none
def gT (is : List Nat) : D → DE → Option DE := fun d ρ => match d with
  | .tup ds => setAll is ds ρ
  | .lst ds => setAll is ds ρ
  | _ => none
def wipeD (ρ : DE) : List Nat → DE
  | [] => ρ
  | v :: vs => (wipeD ρ vs).set v none

/-- a list comprehension -/
def lcD (g : D → DE → Option DE) (t : DE → M Bool) (e : DE → M D) (ρ : DE) : List D → M (List D)
  | [] => ret []
  | x :: xs => bnd (opt (g x ρ)) fun ρ1 => bnd (nox (t ρ1)) fun b =>
      if b then bnd (nox (e ρ1)) fun y => if dat y then bnd (lcD g t e ρ xs) fun ys => ret (y :: ys) else bad
      else lcD g t e ρ xs
def lLc (it : DE → M (List D)) (g : D → DE → Option DE) (t : DE → M Bool) (e : DE → M D) (vs : List Nat) : DE → M (List D) := fun ρ =>
  bnd (it ρ) fun xs => if xs.length ≤ 100000 then lcD g t e (wipeD ρ vs) xs else bad

/-! ### statements -/
inductive Fl where
  | nx (ρ : DE) | rt (d : D) | rl (xs : List D) | bk (ρ : DE) | ct (ρ : DE)
abbrev DS := DE → M Fl
def sSkip : DS := fun ρ => ret (.nx ρ)
def sSeq (a b : DS) : DS := fun ρ => bnd (a ρ) fun f => match f with
  | .nx ρ' => b ρ'
  | f => ret f
def sA (i : Nat) (e : DE → M D) : DS := fun ρ => bnd (e ρ) fun d => if dat d then ret (.nx (ρ.set i (some d))) else bad
/-- a name gets a new list that will be changed -/
def sM (i : Nat) (l : DE → M (List D)) : DS := fun ρ => bnd (l ρ) fun xs => ret (.nx (ρ.set i (some (.mu xs))))
/-- targets that are a tuple of names, off a value -/
def sT (is : List Nat) (e : DE → M D) : DS := fun ρ => bnd (e ρ) fun d => bnd (opt (gT is d ρ)) fun ρ' => ret (.nx ρ')
/-- a, b = x, y -/
def sP (i j : Nat) (a : DE → M (List D)) : DS := fun ρ => bnd (a ρ) fun vs => match vs with
  | [v, w] => if dat v && dat w then ret (.nx ((ρ.set i (some v)).set j (some w))) else bad
  | _ => bad
def sE (e : DE → M D) : DS := fun ρ => bnd (e ρ) fun _ => ret (.nx ρ)
def sR (e : DE → M D) : DS := fun ρ => bnd (e ρ) fun d => if dat d then ret (.rt d) else bad
/-- a new list is handed back, to be changed further -/
def sRL (l : DE → M (List D)) : DS := fun ρ => bnd (l ρ) fun xs => ret (.rl xs)
def sIf (t : DE → M Bool) (a b : DS) : DS := fun ρ => bnd (t ρ) fun x => if x then a ρ else b ρ
/-- x.append(e) -/
def sAp (i : Nat) (e : DE → M D) : DS := fun ρ => match (ρ[i]?).join with
  | some (.mu xs) => bnd (e ρ) fun d => if dat d && decide (xs.length < 100000) then ret (.nx (ρ.set i (some (.mu (xs ++ [d]))))) else bad
  | _ => bad
/-- x[k] = e -/
def sSt (i : Nat) (k e : DE → M D) : DS := fun ρ => bnd (e ρ) fun d => match (ρ[i]?).join with
  | some (.mu xs) => bnd (k ρ) fun y => match y with
    | .int z => if dat d then bnd (opt (ixN xs.length z)) fun j => ret (.nx (ρ.set i (some (.mu (xs.set j d))))) else bad
    | _ => bad
  | some .st => bnd (k ρ) fun y => match y with
    | .int z => if dat d then fun S => match ixN S.length z with
        | some j => .ok (.nx ρ) (S.set j d)
        | none => .bad
      else bad
    | _ => bad
  | _ => bad
/-- a changed list is changed no more -/
def frz (i : Nat) (ρ : DE) : DE := match (ρ[i]?).join with
  | some (.mu xs) => ρ.set i (some (.lst xs))
  | _ => ρ
def sFz (i : Nat) (s : DS) : DS := fun ρ => s (frz i ρ)
/-- state = f(..): the law's own list -/
def sNew (i : Nat) (l : DE → M (List D)) : DS := fun ρ => bnd (l ρ) fun xs S => match S with
  | [.st] => .ok (.nx (ρ.set i (some .st))) xs
  | _ => .bad
def forD (g : D → DE → Option DE) (b : DS) : List D → DS
  | [], ρ => ret (.nx ρ)
  | x :: xs, ρ => bnd (opt (g x ρ)) fun ρ1 => bnd (b ρ1) fun f => match f with
    | .nx ρ2 => forD g b xs ρ2
    | .ct ρ2 => forD g b xs ρ2
    | .bk ρ2 => ret (.nx ρ2)
    | f => ret f
def sFor (it : DE → M (List D)) (g : D → DE → Option DE) (b : DS) : DS := fun ρ => bnd (it ρ) fun xs => if xs.length ≤ 100000 then forD g b xs ρ else bad
/-- while, n turns at most -/
def whN (t : DE → M Bool) (b : DS) : Nat → DS
  | 0, _ => bad
  | n + 1, ρ => bnd (t ρ) fun x => if x then bnd (b ρ) fun f => match f with
      | .nx ρ2 => whN t b n ρ2
      | .ct ρ2 => whN t b n ρ2
      | .bk ρ2 => ret (.nx ρ2)
      | f => ret f
    else ret (.nx ρ)
open Classical in
noncomputable def sWh (t : DE → M Bool) (b : DS) : DS := fun ρ S => if h : ∃ n, whN t b n ρ S ≠ .bad then whN t b (choose h) ρ S else .bad

/-! ### defs -/
def ends : Fl → M D
  | .rt d => ret d
  | .nx _ => ret .non
  | _ => bad
def endsL : Fl → M (List D)
  | .rl xs => ret xs
  | _ => bad
def startD (n : Nat) (ds : List D) : DE := ds.map some ++ List.replicate (n - ds.length) none
/-- a def that makes a list `state` of its own leaves none behind -/
def back (S S' : List D) : List D := match S with
  | [.st] => [.st]
  | _ => S'
def own {α : Type} (m : M α) : M α := fun S => match m S with
  | .bad => .bad
  | .ok a S' => .ok a (back S S')
  | .exc c fs S' => .exc c fs (back S S')
theorem back_self (S : List D) : back S S = S := by
  unfold back; split <;> rfl
/-- a def's body, of n names, run on its np arguments -/
def run (n np : Nat) (b : DS) (ds : List D) : M D := if ds.length = np then own (bnd (b (startD n ds)) ends) else bad
def runL (n np : Nat) (b : DS) (ds : List D) : M (List D) := if ds.length = np then own (bnd (b (startD n ds)) endsL) else bad
/-- .. of a def that raises nothing -/
def runP (n np : Nat) (b : DS) (ds : List D) : M D := nox (run n np b ds)
def runLP (n np : Nat) (b : DS) (ds : List D) : M (List D) := nox (runL n np b ds)
end DL

/-! The rules of the data level: a def's body, read over plain data, does what it says. -/
namespace DL
open PySem PySem.Spec PyProof.Rows L2 Evl

/-- what is known of an own exception class -/
structure XcF (K : PySem.W.Frag) (C : Addr) : Prop where
  is : ExcC K C
  no : ∀ t ∈ kinds, PySem.W.kitOne K (.ref C) (.type t) = some false
/-- an own exception class over ValueError without an __init__ of its own, by its name -/
def XcU (K : PySem.W.Frag) (mg : Str → Option Value) (x : Str) : Prop := ∃ C, mg x = some (.ref C) ∧ PySem.W.excIn K C [.type "ValueError", .type "Exception", .type "BaseException", .type "object"] "ValueError.__new__" = true ∧ PySem.W.keepIn K (.ref C) = true ∧ XcF K C
theorem xcU_mk {K : PySem.W.Frag} {h : Heap} {mg : Str → Option Value} {x : Str} {C : Addr} (X : K.In h) (G : h.Ns mainGlobals mg) (a : PySem.W.nsIn K mainGlobals x = some (some (.ref C)))
    (q : PySem.W.excIn K C [.type "ValueError", .type "Exception", .type "BaseException", .type "object"] "ValueError.__new__" = true) (k : PySem.W.keepIn K (.ref C) = true)
    (i1 : PySem.W.findIn K (.ref C) "__getattribute__" = some (some (.builtin "BaseException.__getattribute__"))) (i2 : PySem.W.findIn K (.ref C) "__getattr__" = some none)
    (i3 : PySem.W.subIn K (.ref C) (.type "BaseException") = some true) (i4 : PySem.W.hasDictIn K C = true) (i5 : PySem.W.findIn K (.ref C) "__class__" = some (some (.builtin "object.__class__")))
    (i6 : PySem.W.specialIn K (.builtin "object.__class__") "__get__" = some (some (.builtin "getset_descriptor.__get__"))) (i7 : PySem.W.takesIn K (.builtin "object.__class__") = some true) (i8 : PySem.W.mroIn K C (.type "object") = some true)
    (n1 : PySem.W.subIn K (.ref C) (.type "int") = some false) (n2 : PySem.W.subIn K (.ref C) (.type "bool") = some false) (n3 : PySem.W.subIn K (.ref C) (.type "str") = some false) (n4 : PySem.W.subIn K (.ref C) (.type "list") = some false) (n5 : PySem.W.subIn K (.ref C) (.type "tuple") = some false) : XcU K mg x :=
  ⟨C, PySem.W.mg_of X G a, q, k, ⟨i1, i2, i3, i4, i5, i6, i7, i8⟩, fun t ht => by
    unfold kinds at ht
    simp only [List.mem_cons, List.not_mem_nil, or_false] at ht
    have go : ∀ T : String, PySem.W.kitMeta T = true → PySem.W.subIn K (.ref C) (.type T) = some false → PySem.W.kitOne K (.ref C) (.type T) = some false := fun T h1 h2 => by
      unfold PySem.W.kitOne PySem.W.kitCls
      rw [if_neg (by rw [beq_iff_eq]; exact fun z => nomatch z)]
      dsimp only
      rw [if_pos h1, h2]
    rcases ht with rfl | rfl | rfl | rfl | rfl
    · exact go _ (by decide +kernel) n1
    · exact go _ (by decide +kernel) n2
    · exact go _ (by decide +kernel) n3
    · exact go _ (by decide +kernel) n4
    · exact go _ (by decide +kernel) n5⟩
section
variable (K : PySem.W.Frag) (mg : Str → Option Value)
mutual
inductive Rp (F : Hp) : V → D → Prop
  | non : Rp F .non .non
  | bl (b : Bool) : Rp F (.bl b) (.bl b)
  | int (i : Int) : Rp F (.int i) (.int i)
  | str (x : Str) : Rp F (.str x) (.str x)
  | ty (n : String) : Rp F (.ty n) (.ty n)
  | glb {n : Str} {a : Addr} : mg n = some (.ref a) → Rp F (.ref a) (.glb n)
  | lst {a : Addr} {vs : List V} {ds : List D} : F a = some (.lst vs) → Rps F vs ds → Rp F (.ref a) (.lst ds)
  | tup {a : Addr} {vs : List V} {ds : List D} : SqT K F a vs → Rps F vs ds → Rp F (.ref a) (.tup ds)
  | scr {a : Addr} {vs : List V} {ds : List D} : SqL K F a vs → Rps F vs ds → Rp F (.ref a) (.scr ds)
  | ins {a C dx : Addr} {n : Str} {ns : List Str} {vs : List V} {ds : List D} : mg n = some (.ref C) → F a = some (.ins C dx (ns.zip vs)) → ns.length = vs.length → Rps F vs ds → Rp F (.ref a) (.ins n ns ds)
  | exn {a C : Addr} {n : Str} : mg n = some (.ref C) → F a = some (ExO (.ref C) a) → XcF K C → Rp F (.ref a) (.exn n)
inductive Rps (F : Hp) : List V → List D → Prop
  | nil : Rps F [] []
  | cons {v : V} {vs : List V} {d : D} {ds : List D} : Rp F v d → Rps F vs ds → Rps F (v :: vs) (d :: ds)
end
end

section
variable {K : PySem.W.Frag} {mg : Str → Option Value} {F F' H H' : Hp}
mutual
theorem Rp.mono (e : Ex F F') : ∀ {v : V} {d : D}, Rp K mg F v d → Rp K mg F' v d
  | _, _, .non => .non
  | _, _, .bl b => .bl b
  | _, _, .int i => .int i
  | _, _, .str x => .str x
  | _, _, .ty n => .ty n
  | _, _, .glb h => .glb h
  | _, _, .lst h r => .lst (e _ _ h) (Rps.mono e r)
  | _, _, .tup h r => .tup (ex_t e h) (Rps.mono e r)
  | _, _, .scr h r => .scr (ex_l e h) (Rps.mono e r)
  | _, _, .ins h1 h2 h3 r => .ins h1 (e _ _ h2) h3 (Rps.mono e r)
  | _, _, .exn h1 h2 h3 => .exn h1 (e _ _ h2) h3
theorem Rps.mono (e : Ex F F') : ∀ {vs : List V} {ds : List D}, Rps K mg F vs ds → Rps K mg F' vs ds
  | _, _, .nil => .nil
  | _, _, .cons a r => .cons (Rp.mono e a) (Rps.mono e r)
end
theorem Rps.length : ∀ {vs : List V} {ds : List D}, Rps K mg F vs ds → vs.length = ds.length
  | _, _, .nil => rfl
  | _, _, .cons _ r => by rw [List.length_cons, List.length_cons, Rps.length r]
theorem Rps.append : ∀ {vs ws : List V} {ds es : List D}, Rps K mg F vs ds → Rps K mg F ws es → Rps K mg F (vs ++ ws) (ds ++ es)
  | _, _, _, _, .nil, s => s
  | _, _, _, _, .cons a r, s => .cons a (Rps.append r s)
theorem Rps.get : ∀ {vs : List V} {ds : List D} {i : Nat} {d : D}, Rps K mg F vs ds → ds[i]? = some d → ∃ v, vs[i]? = some v ∧ Rp K mg F v d
  | _, _, i, _, .nil, h => by simp at h
  | _, _, 0, _, .cons a r, h => by simp at h; subst h; exact ⟨_, rfl, a⟩
  | _, _, i + 1, _, .cons a r, h => by
    obtain ⟨v, h1, h2⟩ := Rps.get (i := i) r (by simpa using h)
    exact ⟨v, by simpa using h1, h2⟩
theorem Rps.getV : ∀ {vs : List V} {ds : List D} {i : Nat} {v : V}, Rps K mg F vs ds → vs[i]? = some v → ∃ d, ds[i]? = some d ∧ Rp K mg F v d
  | _, _, i, _, .nil, h => by simp at h
  | _, _, 0, _, .cons a r, h => by simp at h; subst h; exact ⟨_, rfl, a⟩
  | _, _, i + 1, _, .cons a r, h => by
    obtain ⟨v, h1, h2⟩ := Rps.getV (i := i) r (by simpa using h)
    exact ⟨v, by simpa using h1, h2⟩
theorem Rps.set {v : V} {d : D} (h : Rp K mg F v d) : ∀ {vs : List V} {ds : List D} (i : Nat), Rps K mg F vs ds → Rps K mg F (vs.set i v) (ds.set i d)
  | _, _, _, .nil => .nil
  | _, _, 0, .cons _ r => .cons h r
  | _, _, i + 1, .cons a r => .cons a (Rps.set h i r)
theorem Rps.drop : ∀ {vs : List V} {ds : List D} (n : Nat), Rps K mg F vs ds → Rps K mg F (vs.drop n) (ds.drop n)
  | _, _, 0, r => r
  | _, _, _ + 1, .nil => .nil
  | _, _, n + 1, .cons _ r => Rps.drop n r
theorem Rps.take : ∀ {vs : List V} {ds : List D} (n : Nat), Rps K mg F vs ds → Rps K mg F (vs.take n) (ds.take n)
  | _, _, 0, _ => .nil
  | _, _, _ + 1, .nil => .nil
  | _, _, n + 1, .cons a r => .cons a (Rps.take n r)
theorem Rps.cut {vs : List V} {ds : List D} (lo hi : Option Int) (r : Rps K mg F vs ds) : Rps K mg F (cutV vs lo hi) (cutD ds lo hi) := by
  unfold cutV cutD
  rw [r.length]
  exact (r.drop _).take _
theorem Rps.flat {vs : List V} {ds : List D} (r : Rps K mg F vs ds) : ∀ n : Nat, Rps K mg F (List.replicate n vs).flatten (List.replicate n ds).flatten
  | 0 => .nil
  | n + 1 => by
    rw [List.replicate_succ, List.replicate_succ, List.flatten_cons, List.flatten_cons]
    exact r.append (Rps.flat r n)
theorem Rps.ints : ∀ {vs : List V} {ds : List D} {ns : List Int}, Rps K mg F vs ds → intsOf ds = some ns → vs = ns.map V.int
  | _, _, ns, .nil, h => by cases h; rfl
  | _, _, ns, .cons (d := d) (ds := ds) a r, h => by
    unfold intsOf at h
    split at h
    · rename_i i is h1 h2
      cases h
      rw [Rps.ints r h2]
      cases d <;> first | (cases h1; done) | skip
      cases h1
      cases a
      rfl
    · cases h
theorem Rps.bools : ∀ {vs : List V} {ds : List D} {ns : List Bool}, Rps K mg F vs ds → boolsOf ds = some ns → vs = ns.map V.bl
  | _, _, ns, .nil, h => by cases h; rfl
  | _, _, ns, .cons (d := d) (ds := ds) a r, h => by
    unfold boolsOf at h
    split at h
    · rename_i i is h1 h2
      cases h
      rw [Rps.bools r h2]
      cases d <;> first | (cases h1; done) | skip
      cases h1
      cases a
      rfl
    · cases h
mutual
theorem Rp.dp (e : Ex F H) : ∀ (d : D) {v : V} {p : PyData}, Rp K mg F v d → toPy d = some p → Dp K H v p
  | .non, _, _, r, h => by cases r; cases h; exact .non
  | .bl b, _, _, r, h => by cases r; cases h; exact .bl b
  | .int i, _, _, r, h => by cases r; cases h; exact .int i
  | .str x, _, _, r, h => by cases r; cases h; exact .str x
  | .lst xs, _, _, r, h => by
    unfold toPy at h
    cases h1 : toPys xs with
    | none => rw [h1] at h; cases h
    | some ps =>
      rw [h1] at h; cases h
      cases r with
      | lst q r => exact .lst (sq_of (e _ _ q)) (Rps.dp e xs r h1)
  | .tup xs, _, _, r, h => by
    unfold toPy at h
    cases h1 : toPys xs with
    | none => rw [h1] at h; cases h
    | some ps =>
      rw [h1] at h; cases h
      cases r with
      | tup q r => exact .tup (ex_t e q) (Rps.dp e xs r h1)
  | .ty _, _, _, _, h => by unfold toPy at h; cases h
  | .glb _, _, _, _, h => by unfold toPy at h; cases h
  | .scr _, _, _, _, h => by unfold toPy at h; cases h
  | .ins _ _ _, _, _, _, h => by unfold toPy at h; cases h
  | .mu _, _, _, _, h => by unfold toPy at h; cases h
  | .exn _, _, _, _, h => by unfold toPy at h; cases h
  | .st, _, _, _, h => by unfold toPy at h; cases h
theorem Rps.dp (e : Ex F H) : ∀ (ds : List D) {vs : List V} {ps : List PyData}, Rps K mg F vs ds → toPys ds = some ps → DpAll K H vs ps
  | [], _, _, r, h => by cases r; cases h; exact .nil
  | d :: ds, _, _, r, h => by
    unfold toPys at h
    split at h
    · rename_i p ps h1 h2
      cases h
      cases r with
      | cons a r => exact .cons (Rp.dp e d a h1) (Rps.dp e ds r h2)
    · cases h
end
end

/-! ### where one stands -/
structure Grow (ps : Option Addr) (F H F' H' : Hp) : Prop where
  ff : Ex F F'
  fh : Ex F' H'
  fr : ∀ a, H a ≠ none → F' a = F a
  hh : ∀ a o, H a = some o → some a ≠ ps → H' a = some o
section
variable {ps : Option Addr} {F H F1 H1 F2 H2 : Hp}
theorem Grow.refl (e : Ex F H) : Grow ps F H F H := ⟨Ex.refl F, e, fun _ _ => rfl, fun _ _ h _ => h⟩
theorem Grow.new {p : Addr} {o : HO} (e : Ex F H) (h : H p = none) : Grow ps F H (upd F p o) (upd H p o) := by
  refine ⟨Ex.new (fresh_back e h), fun a u q => ?_, fun a q => ?_, fun a u q _ => ?_⟩
  · by_cases z : a = p
    · subst z; rw [upd_same] at q ⊢; exact q
    · rw [upd_ne z] at q ⊢; exact e a u q
  · have z : a ≠ p := fun z => q (by rw [z]; exact h)
    rw [upd_ne z]
  · have z : a ≠ p := fun z => by rw [z, h] at q; cases q
    rw [upd_ne z]; exact q
end

section
variable (K : PySem.W.Frag) (mg : Str → Option Value)
/-- the items of `state` -/
def StR (ps : Option Addr) (F H : Hp) (S : List D) : Prop := (∀ p, ps = some p → F p = none ∧ ∃ vs, H p = some (.lst vs) ∧ Rps K mg F vs S) ∧ (ps = none → S = [D.st])
/-- a local list that is changed -/
def MuR (H0 : Hp) (ps : Option Addr) (F H : Hp) (v : V) (xs : List D) : Prop := ∃ p vs, v = .ref p ∧ F p = none ∧ H p = some (.lst vs) ∧ Rps K mg F vs xs ∧ H0 p = none ∧ some p ≠ ps
abbrev SlR (H0 : Hp) (ps : Option Addr) (F H : Hp) (v : V) (d : D) : Prop := Rp K mg F v d ∨ (∃ xs, d = D.mu xs ∧ MuR K mg H0 ps F H v xs) ∨ (d = .st ∧ ∃ p, ps = some p ∧ v = .ref p)
structure En (H0 : Hp) (ps : Option Addr) (F H : Hp) (σ : L2.St) (ρ : DE) (S : List D) : Prop where
  fh : Ex F H
  st : StR K mg ps F H S
  len : σ.length = ρ.length
  sl : ∀ (i : Nat) (d : D), ρ[i]? = some (some d) → ∃ v, σ[i]? = some (some v) ∧ SlR K mg H0 ps F H v d
  mne : ∀ (i j : Nat) (xs ys : List D) (v : V), i ≠ j → ρ[i]? = some (some (D.mu xs)) → σ[i]? = some (some v) → ρ[j]? = some (some (D.mu ys)) → σ[j]? ≠ some (some v)
/-- a value at hand -/
abbrev VR (ps : Option Addr) (σ : L2.St) (ρ : DE) (F : Hp) (v : V) (d : D) : Prop := Rp K mg F v d ∨ (∃ (i : Nat) (xs : List D), d = D.mu xs ∧ ρ[i]? = some (some (D.mu xs)) ∧ σ[i]? = some (some v)) ∨ (d = .st ∧ ∃ p, ps = some p ∧ v = .ref p)
inductive VRs (ps : Option Addr) (σ : L2.St) (ρ : DE) (F : Hp) : List V → List D → Prop
  | nil : VRs ps σ ρ F [] []
  | cons {v : V} {vs : List V} {d : D} {ds : List D} : VR K mg ps σ ρ F v d → VRs ps σ ρ F vs ds → VRs ps σ ρ F (v :: vs) (d :: ds)
/-- the fields of an exception -/
def ExR (F H : Hp) (cls : Value) (dx : Option Addr) (c : Str) (fs : List (Str × D)) : Prop := ∃ C, mg c = some (.ref C) ∧ cls = .ref C ∧
  (fs = [] ∨ ∃ a vs, dx = some a ∧ H a = some (.xd ((fs.map (·.1)).zip vs)) ∧ Rps K mg F vs (fs.map (·.2)))
end

section
variable {K : PySem.W.Frag} {mg : Str → Option Value} {H0 : Hp} {ps : Option Addr} {F H F1 H1 F2 H2 : Hp} {σ : L2.St} {ρ : DE} {S S1 S2 : List D}
theorem Grow.trans (st : StR K mg ps F H S) (a : Grow ps F H F1 H1) (st1 : StR K mg ps F1 H1 S1) (b : Grow ps F1 H1 F2 H2) : Grow ps F H F2 H2 := by
  refine ⟨a.ff.trans b.ff, b.fh, fun x h => ?_, fun x o h n => b.hh x o (a.hh x o h n) n⟩
  have h1 : H1 x ≠ none := by
    by_cases z : some x = ps
    · obtain ⟨_, vs, q, _⟩ := st1.1 x z.symm
      rw [q]; intro q; cases q
    · cases q : H x with
      | none => exact absurd q h
      | some o => rw [a.hh x o q z]; intro q; cases q
  rw [b.fr x h1, a.fr x h]
theorem StR.new {p : Addr} {o : HO} (st : StR K mg ps F H S) (e : Ex F H) (h : H p = none) : StR K mg ps (upd F p o) (upd H p o) S := ⟨fun q hq => by
  obtain ⟨h1, vs, h2, h3⟩ := st.1 q hq
  have n : q ≠ p := fun z => by rw [z, h] at h2; cases h2
  exact ⟨by rw [upd_ne n]; exact h1, vs, by rw [upd_ne n]; exact h2, h3.mono (Ex.new (fresh_back e h))⟩, st.2⟩
theorem MuR.grow {v : V} {xs : List D} (m : MuR K mg H0 ps F H v xs) (g : Grow ps F H F1 H1) : MuR K mg H0 ps F1 H1 v xs := by
  obtain ⟨p, vs, rfl, h1, h2, h3, h4, h5⟩ := m
  refine ⟨p, vs, rfl, ?_, g.hh p _ h2 h5, h3.mono g.ff, h4, h5⟩
  rw [g.fr p (by rw [h2]; intro q; cases q)]; exact h1
theorem SlR.grow {v : V} {d : D} (m : SlR K mg H0 ps F H v d) (g : Grow ps F H F1 H1) : SlR K mg H0 ps F1 H1 v d := by
  rcases m with m | ⟨xs, e, m⟩ | m
  · exact .inl (m.mono g.ff)
  · exact .inr (.inl ⟨xs, e, m.grow g⟩)
  · exact .inr (.inr m)
theorem En.grow (e : En K mg H0 ps F H σ ρ S) (g : Grow ps F H F1 H1) (st : StR K mg ps F1 H1 S1) : En K mg H0 ps F1 H1 σ ρ S1 :=
  ⟨g.fh, st, e.len, fun i d h => by obtain ⟨v, h1, h2⟩ := e.sl i d h; exact ⟨v, h1, h2.grow g⟩, e.mne⟩
theorem VR.mono {v : V} {d : D} (r : VR K mg ps σ ρ F v d) (e : Ex F F1) : VR K mg ps σ ρ F1 v d := by
  rcases r with r | r | r
  · exact .inl (r.mono e)
  · exact .inr (.inl r)
  · exact .inr (.inr r)
theorem VRs.mono (e : Ex F F1) : ∀ {vs : List V} {ds : List D}, VRs K mg ps σ ρ F vs ds → VRs K mg ps σ ρ F1 vs ds
  | _, _, .nil => .nil
  | _, _, .cons a r => .cons (a.mono e) (VRs.mono e r)
theorem VR.rp {v : V} {d : D} (r : VR K mg ps σ ρ F v d) (h : dat d = true) : Rp K mg F v d := by
  rcases r with r | ⟨i, xs, e, _⟩ | ⟨e, _⟩
  · exact r
  · subst e; cases h
  · subst e; cases h
theorem Rp.dat {v : V} {d : D} (r : Rp K mg F v d) : dat d = true := by cases r <;> rfl
theorem VRs.rps : ∀ {vs : List V} {ds : List D}, VRs K mg ps σ ρ F vs ds → allDat ds = true → Rps K mg F vs ds
  | _, _, .nil, _ => .nil
  | _, _, .cons a r, h => by
    unfold allDat at h
    rw [List.all_cons, Bool.and_eq_true] at h
    exact .cons (a.rp h.1) (VRs.rps r h.2)
/-- what has items: a list or a tuple -/
theorem En.items {v : V} {d : D} {xs : List D} (e : En K mg H0 ps F H σ ρ S) (r : VR K mg ps σ ρ F v d) (h : items d = some xs) : ∃ p vs, v = .ref p ∧ (SqL K H p vs ∨ SqT K H p vs) ∧ Rps K mg F vs xs := by
  rcases r with r | ⟨i, ys, rfl, h1, h2⟩ | ⟨rfl, _⟩
  · cases r <;> first | (cases h; done) | skip
    · cases h; rename_i a vs q r; exact ⟨a, vs, rfl, .inl (sq_of (e.fh _ _ q)), r⟩
    · cases h; rename_i a vs q r; exact ⟨a, vs, rfl, .inr (ex_t e.fh q), r⟩
    · cases h; rename_i a vs q r; exact ⟨a, vs, rfl, .inl (ex_l e.fh q), r⟩
  · cases h
    obtain ⟨w, h3, h4⟩ := e.sl i _ h1
    rw [h2] at h3; cases h3
    rcases h4 with h4 | ⟨zs, q, m⟩ | ⟨q, _⟩
    · cases h4
    · cases q
      obtain ⟨p, vs, rfl, _, m2, m3, _⟩ := m
      exact ⟨p, vs, rfl, .inl (sq_of m2), m3⟩
    · cases q
  · cases h
end

/-! ### computations -/
section
variable (K : PySem.W.Frag) (mg : Str → Option Value) (E : XK)
def Ps {α : Type} (ps : Option Addr) (F H : Hp) (r : R α) (P : α → List D → Hp → Hp → Prop) : Prop := match r with
  | .bad => False
  | .ok a S' => ∀ F' H', Grow ps F H F' H' → StR K mg ps F' H' S' → P a S' F' H'
  | .exc c fs S' => ∀ cls dx F' H', Grow ps F H F' H' → StR K mg ps F' H' S' → ExR K mg F' H' cls dx c fs → E cls dx H'
def tD (φ : DE → M D) : TE := fun σ H Q => ∃ H0 ps F ρ S, En K mg H0 ps F H σ ρ S ∧ Ps K mg E ps F H (φ ρ S) fun d _ F' H' => ∀ v, VR K mg ps σ ρ F' v d → Q v H'
def tDA (φ : DE → M (List D)) : TA := fun σ H Q => ∃ H0 ps F ρ S, En K mg H0 ps F H σ ρ S ∧ Ps K mg E ps F H (φ ρ S) fun ds _ F' H' => ∀ vs, VRs K mg ps σ ρ F' vs ds → Q vs H'
def tDT (φ : DE → M Bool) : TT := fun σ H Q => ∃ H0 ps F ρ S, En K mg H0 ps F H σ ρ S ∧ Ps K mg E ps F H (φ ρ S) fun b _ _ H' => Q b H'
def tDO (φ : DE → M (Option Int)) : TO := fun σ H Q => ∃ H0 ps F ρ S, En K mg H0 ps F H σ ρ S ∧ Ps K mg E ps F H (φ ρ S) fun b _ _ H' => Q b H'
/-- a new list, not yet among the kept -/
def tDL (φ : DE → M (List D)) : TE := fun σ H Q => ∃ H0 ps F ρ S, En K mg H0 ps F H σ ρ S ∧ Ps K mg E ps F H (φ ρ S) fun ds _ F' H' => ∀ p vs, H' p = none → Rps K mg F' vs ds → Q (.ref p) (upd H' p (.lst vs))
end
section
variable {K : PySem.W.Frag} {mg : Str → Option Value} {E : XK} {H0 : Hp} {ps : Option Addr} {F H F1 H1 F2 H2 : Hp} {σ : L2.St} {ρ : DE} {S S1 S2 : List D}
theorem Ps.imp {α : Type} {r : R α} {P P' : α → List D → Hp → Hp → Prop} (h : Ps K mg E ps F H r P) (k : ∀ a S' F' H', Grow ps F H F' H' → StR K mg ps F' H' S' → P a S' F' H' → P' a S' F' H') : Ps K mg E ps F H r P' := by
  cases r with
  | bad => exact h
  | ok a S' => exact fun F' H' g st => k a S' F' H' g st (h F' H' g st)
  | exc c fs S' => exact h
theorem Ps.bnd {α β : Type} {m : M α} {f : α → M β} {P : β → List D → Hp → Hp → Prop} (st : StR K mg ps F H S) (h : Ps K mg E ps F H (bnd m f S) P) :
    Ps K mg E ps F H (m S) fun a S1 F1 H1 => Ps K mg E ps F1 H1 (f a S1) P := by
  cases hm : m S with
  | bad => unfold DL.bnd at h; rw [hm] at h; exact h
  | exc c fs S' => unfold DL.bnd at h; rw [hm] at h; exact h
  | ok a S1 =>
    rw [bnd_ok hm] at h
    intro F1 H1 g st1
    cases hf : f a S1 with
    | bad => rw [hf] at h; exact h
    | ok b S2 => rw [hf] at h; exact fun F2 H2 g2 st2 => h F2 H2 (Grow.trans st g st1 g2) st2
    | exc c fs S2 => rw [hf] at h; exact fun cls dx F2 H2 g2 st2 => h cls dx F2 H2 (Grow.trans st g st1 g2) st2
theorem Ps.opt {α : Type} {o : Option α} {P : α → List D → Hp → Hp → Prop} (h : Ps K mg E ps F H (opt o S) P) : ∃ a, o = some a ∧ ∀ F' H', Grow ps F H F' H' → StR K mg ps F' H' S → P a S F' H' := by
  cases o with
  | none => exact h.elim
  | some a => exact ⟨a, rfl, h⟩
theorem Ps.ret {α : Type} {a : α} {P : α → List D → Hp → Hp → Prop} (h : Ps K mg E ps F H (ret a S) P) : ∀ F' H', Grow ps F H F' H' → StR K mg ps F' H' S → P a S F' H' := h
end
theorem pe_imp {X : Cx} {e : Expr} {t t' : TE} (h : PE X e t) (k : ∀ σ H Q, t' σ H Q → t σ H Q) : PE X e t' := ⟨fun pins s σ H Q I q => h.run pins s σ H Q I (k σ H Q q)⟩
theorem pt_imp {X : Cx} {e : Expr} {t t' : TT} (h : PT X e t) (k : ∀ σ H Q, t' σ H Q → t σ H Q) : PT X e t' := ⟨fun pins s σ H Q I q => h.run pins s σ H Q I (k σ H Q q)⟩
theorem pw_imp {X : Cx} {e : Expr} {t t' : TT} (h : PW X e t) (k : ∀ σ H Q, t' σ H Q → t σ H Q) : PW X e t' := ⟨fun w pins s σ H Q I q => h.run w pins s σ H Q I (k σ H Q q)⟩
theorem pa_imp {X : Cx} {e : List Expr} {t t' : TA} (h : PA X e t) (k : ∀ σ H Q, t' σ H Q → t σ H Q) : PA X e t' := ⟨fun pos pins s σ H Q I q => h.run pos pins s σ H Q I (k σ H Q q)⟩
theorem po_imp {X : Cx} {e : Option Expr} {t t' : TO} (h : PO X e t) (k : ∀ σ H Q, t' σ H Q → t σ H Q) : PO X e t' := ⟨fun pins s σ H Q I q => h.run pins s σ H Q I (k σ H Q q)⟩
theorem ps_imp {X : Cx} {e : Stmt} {t t' : TS} (h : PS X e t) (k : ∀ D σ H, t' D σ H → t D σ H) : PS X e t' := ⟨fun pins s σ H D I q => h.run pins s σ H D I (k D σ H q)⟩
theorem pss_imp {X : Cx} {e : List Stmt} {t t' : TS} (h : PSs X e t) (k : ∀ D σ H, t' D σ H → t D σ H) : PSs X e t' := ⟨fun pins s σ H D I q => h.run pins s σ H D I (k D σ H q)⟩

/-! ### expressions -/
section
variable {X : Cx} {mg : Str → Option Value} {E : XK} {a b e : Expr} {es : List Expr} {φ ψ : DE → M D} {pos : Pos}
theorem d_var (i : Nat) {x : Str} (hN : X.N[i]? = some x := by rfl) (hv : Vis X.env.scope x := by first | exact Or.inl rfl | exact Or.inr (Or.inl rfl) | exact Or.inr (Or.inr rfl)) (hd : (x == ("__debug__" : Str)) = false := by decide) (hcd : (x == ("__classdict__" : Str)) = false := by decide) :
    PE X (.Name x pos) (tD X.K mg E (eV i)) := pe_imp (pe_var hN hv hd hcd) fun σ H Q => by
  rintro ⟨H0, ps, F, ρ, S, env, h⟩
  unfold eV at h
  cases hj : ρ[i]? with
  | none => rw [hj] at h; exact h.elim
  | some o =>
    rw [hj] at h
    cases o with
    | none => exact h.elim
    | some d =>
      obtain ⟨v, h1, h2⟩ := env.sl i d hj
      refine ⟨v, h1, h F H (Grow.refl env.fh) env.st v ?_⟩
      rcases h2 with h2 | ⟨xs, rfl, _⟩ | h2
      · exact .inl h2
      · exact .inr (.inl ⟨i, xs, rfl, hj, h1⟩)
      · exact .inr (.inr h2)
theorem d_const {v : V} {d : D} (h : PE X e (tC v)) (r : ∀ F, Rp X.K mg F v d) : PE X e (tD X.K mg E (eC d)) := pe_imp h fun σ H Q => by
  rintro ⟨H0, ps, F, ρ, S, env, h⟩
  exact h F H (Grow.refl env.fh) env.st v (.inl (r F))
theorem d_int {i : Int} {j} : PE X (.Constant (.int i) j pos) (tD X.K mg E (eC (.int i))) := d_const pe_int fun _ => .int i
theorem d_bl {b : Bool} {j} : PE X (.Constant (.bool b) j pos) (tD X.K mg E (eC (.bl b))) := d_const pe_bl fun _ => .bl b
theorem d_non {j} : PE X (.Constant .none j pos) (tD X.K mg E (eC .non)) := d_const pe_non fun _ => .non
theorem d_str {x : Str} {j} : PE X (.Constant (.str x) j pos) (tD X.K mg E (eC (.str x))) := d_const pe_str fun _ => .str x
/-- a built-in type as a value -/
theorem d_ty {x : Str} {n : String} (hg : Gl X x) (hm : X.mg x = none) (hv : bootBuiltins x = some (.type n)) (hn : x ≠ "__name__" := by decide) (hd : (x == ("__debug__" : Str)) = false := by decide) : PE X (.Name x pos) (tD X.K mg E (eC (.ty n))) :=
  d_const (pe_bltn (v := .ty n) hg hm hv rfl hn hd) fun _ => .ty n

/-- an operation of two values -/
def Op2 (K : PySem.W.Frag) (mg : Str → Option Value) (r : R2) (f : D → D → Option D) : Prop := ∀ (H0 : Hp) (ps : Option Addr) (F H : Hp) (σ : L2.St) (ρ : DE) (S : List D) (x y : V) (d e z : D) (Q : VK),
  En K mg H0 ps F H σ ρ S → VR K mg ps σ ρ F x d → VR K mg ps σ ρ F y e → f d e = some z → (∀ v F' H', Grow ps F H F' H' → StR K mg ps F' H' S → VR K mg ps σ ρ F' v z → Q v H') → r x y H Q
def Op1 (K : PySem.W.Frag) (mg : Str → Option Value) (r : V → Hp → VK → Prop) (f : D → Option D) : Prop := ∀ (H0 : Hp) (ps : Option Addr) (F H : Hp) (σ : L2.St) (ρ : DE) (S : List D) (x : V) (d z : D) (Q : VK),
  En K mg H0 ps F H σ ρ S → VR K mg ps σ ρ F x d → f d = some z → (∀ v F' H', Grow ps F H F' H' → StR K mg ps F' H' S → VR K mg ps σ ρ F' v z → Q v H') → r x H Q
def OpN (K : PySem.W.Frag) (mg : Str → Option Value) (r : List V → Hp → VK → Prop) (f : List D → Option D) : Prop := ∀ (H0 : Hp) (ps : Option Addr) (F H : Hp) (σ : L2.St) (ρ : DE) (S : List D) (xs : List V) (ds : List D) (z : D) (Q : VK),
  En K mg H0 ps F H σ ρ S → VRs K mg ps σ ρ F xs ds → f ds = some z → (∀ v F' H', Grow ps F H F' H' → StR K mg ps F' H' S → VR K mg ps σ ρ F' v z → Q v H') → r xs H Q
theorem go2 {r : R2} {f : D → D → Option D} (hf : Op2 X.K mg r f) : ∀ σ H Q, tD X.K mg E (e2 f φ ψ) σ H Q → tOp r (tD X.K mg E φ) (tD X.K mg E ψ) σ H Q := by
  rintro σ H Q ⟨H0, ps, F, ρ, S, env, h⟩
  refine ⟨H0, ps, F, ρ, S, env, (Ps.bnd env.st h).imp fun x S1 F1 H1 g1 st1 h1 v hv => ?_⟩
  have env1 := env.grow g1 st1
  refine ⟨H0, ps, F1, ρ, S1, env1, (Ps.bnd st1 h1).imp fun y S2 F2 H2 g2 st2 h2 u hu => ?_⟩
  obtain ⟨z, e, k⟩ := h2.opt
  exact hf H0 ps F2 H2 σ ρ S2 v u x y z Q (env1.grow g2 st2) (hv.mono g2.ff) hu e fun w F' H' g st r => k F' H' g st w r
theorem d_op {op : Operator} {r : R2} {f : D → D → Option D} (ho : OpR X (binaryOp op) r) (hf : Op2 X.K mg r f) (ha : PE X a (tD X.K mg E φ)) (hb : PE X b (tD X.K mg E ψ)) : PE X (.BinOp a op b pos) (tD X.K mg E (e2 f φ ψ)) :=
  pe_imp (pe_op ho ha hb) (go2 hf)
theorem d_cmp {op : CmpOp} {r : R2} {f : D → D → Option D} (ho : OpR X (compareOp op) r) (hf : Op2 X.K mg r f) (ha : PE X a (tD X.K mg E φ)) (hb : PE X b (tD X.K mg E ψ)) (hm : behindInMarks op b = false) : PE X (.Compare a [op] [b] pos) (tD X.K mg E (e2 f φ ψ)) :=
  pe_imp (pe_cmpR ho ha hb hm) (go2 hf)
theorem go1 {r : V → Hp → VK → Prop} {f : D → Option D} (hf : Op1 X.K mg r f) : ∀ σ H Q, tD X.K mg E (e1 f φ) σ H Q → tUn r (tD X.K mg E φ) σ H Q := by
  rintro σ H Q ⟨H0, ps, F, ρ, S, env, h⟩
  refine ⟨H0, ps, F, ρ, S, env, (Ps.bnd env.st h).imp fun x S1 F1 H1 g1 st1 h1 v hv => ?_⟩
  obtain ⟨z, e, k⟩ := h1.opt
  exact hf H0 ps F1 H1 σ ρ S1 v x z Q (env.grow g1 st1) hv e fun w F' H' g st r => k F' H' g st w r
theorem d_un {op : UnaryOp} {r : V → Hp → VK → Prop} {f : D → Option D} (ho : UnR X (unaryOp op) r) (hf : Op1 X.K mg r f) (ha : PE X a (tD X.K mg E φ)) : PE X (.UnaryOp op a pos) (tD X.K mg E (e1 f φ)) :=
  pe_imp (pe_un ho ha) (go1 hf)
/-- argument lists -/
theorem d_nil : PA X [] (tDA X.K mg E aN) := pa_imp pa_nil fun σ H Q => by
  rintro ⟨H0, ps, F, ρ, S, env, h⟩
  exact h F H (Grow.refl env.fh) env.st [] .nil
theorem d_cons {α : DE → M (List D)} (ha : PE X e (tD X.K mg E φ)) (hr : PA X es (tDA X.K mg E α)) (hs : starEach (e :: es) X.env = (false, eval e X.env) :: starEach es X.env := by rfl) : PA X (e :: es) (tDA X.K mg E (aC φ α)) :=
  pa_imp (pa_cons ha hr hs) fun σ H Q => by
  rintro ⟨H0, ps, F, ρ, S, env, h⟩
  refine ⟨H0, ps, F, ρ, S, env, (Ps.bnd env.st h).imp fun x S1 F1 H1 g1 st1 h1 v hv => ?_⟩
  refine ⟨H0, ps, F1, ρ, S1, env.grow g1 st1, (Ps.bnd st1 h1).imp fun y S2 F2 H2 g2 st2 h2 u hu => ?_⟩
  exact h2.ret F2 H2 (Grow.refl g2.fh) st2 _ (.cons (hv.mono g2.ff) hu)
theorem goN {α : DE → M (List D)} {r : List V → Hp → VK → Prop} {f : List D → Option D} (hf : OpN X.K mg r f) : ∀ σ H Q, tD X.K mg E (eB f α) σ H Q → tCB r (tDA X.K mg E α) σ H Q := by
  rintro σ H Q ⟨H0, ps, F, ρ, S, env, h⟩
  refine ⟨H0, ps, F, ρ, S, env, (Ps.bnd env.st h).imp fun x S1 F1 H1 g1 st1 h1 v hv => ?_⟩
  obtain ⟨z, e, k⟩ := h1.opt
  exact hf H0 ps F1 H1 σ ρ S1 v x z Q (env.grow g1 st1) hv e fun w F' H' g st r => k F' H' g st w r
/-- a built-in function, a built-in type called -/
theorem d_bi {id : String} {x : Str} {p : Pos} {α : DE → M (List D)} {r : List V → Hp → VK → Prop} {f : List D → Option D} (hc : CallR X (.builtin id) r) (hf : OpN X.K mg r f) (hg : Gl X x) (hm : X.mg x = none) (hv : bootBuiltins x = some (.builtin id)) (ha : PA X (e :: es) (tDA X.K mg E α)) (hn : x ≠ "__name__" := by decide) (hdb : (x == ("__debug__" : Str)) = false := by decide)
    (he : starEach (e :: es) X.env = (false, eval e X.env) :: starEach es X.env := by rfl) (hpl : (backTo pos (starEach es X.env)).any (·.1) = false := by rfl) : PE X (.Call (.Name x p) (e :: es) [] pos) (tD X.K mg E (eB f α)) :=
  pe_imp (pe_callB hc hg hm hv ha hn hdb he hpl) (goN hf)
theorem d_tyc {T : String} {x : Str} {p : Pos} {α : DE → M (List D)} {r : List V → Hp → VK → Prop} {f : List D → Option D} (hc : CallR X (.type T) r) (hf : OpN X.K mg r f) (hg : Gl X x) (hm : X.mg x = none) (hv : bootBuiltins x = some (.type T)) (ha : PA X (e :: es) (tDA X.K mg E α)) (hn : x ≠ "__name__" := by decide) (hdb : (x == ("__debug__" : Str)) = false := by decide)
    (he : starEach (e :: es) X.env = (false, eval e X.env) :: starEach es X.env := by rfl) (hpl : (backTo pos (starEach es X.env)).any (·.1) = false := by rfl) : PE X (.Call (.Name x p) (e :: es) [] pos) (tD X.K mg E (eB f α)) :=
  pe_imp (pe_callTy hc hg hm hv ha hn hdb he hpl) (goN hf)
/-- x[i] -/
theorem d_ix (ha : PE X a (tD X.K mg E φ)) (hb : PE X b (tD X.K mg E ψ)) (hs : PlainIx b) : PE X (.Subscript a b pos) (tD X.K mg E (eIx φ ψ)) := pe_imp (pe_ix ix_seq ha hb hs) fun σ H Q => by
  rintro ⟨H0, ps, F, ρ, S, env, h⟩
  refine ⟨H0, ps, F, ρ, S, env, (Ps.bnd env.st h).imp fun x S1 F1 H1 g1 st1 h1 v hv => ?_⟩
  have env1 := env.grow g1 st1
  refine ⟨H0, ps, F1, ρ, S1, env1, (Ps.bnd st1 h1).imp fun y S2 F2 H2 g2 st2 h2 u hu => ?_⟩
  have env2 := env1.grow g2 st2
  obtain ⟨z, e, k⟩ := h2.opt
  have k := k F2 H2 (Grow.refl g2.fh) st2
  replace hv := hv.mono g2.ff
  clear h1 h
  cases y <;> first | (unfold dIx at e; cases e; done) | skip
  rename_i i
  have hu := hu.rp rfl
  cases hu
  -- a list or a tuple
  have seq : ∀ xs, items x = some xs → atI xs i = some z → rIx X.K v (.int i) H2 Q := by
    intro xs hx hi
    obtain ⟨p, vs, rfl, hq, r⟩ := env2.items hv hx
    obtain ⟨j, e1, e2, _⟩ := atI_get hi
    obtain ⟨w, hw, rw'⟩ := r.get e2
    have hat : atI vs i = some w := by
      unfold atI at hi ⊢
      rw [r.length]
      cases hn : ixN xs.length i with
      | none => rw [hn] at hi; cases hi
      | some j' =>
        have := (ixN_seq hn).1
        rw [e1] at this; cases this
        exact hw
    rcases hq with hq | hq
    · exact .inl ⟨p, vs, i, w, rfl, rfl, hq, hat, k w (.inl rw')⟩
    · exact .inr (.inl ⟨p, vs, i, w, rfl, rfl, hq, hat, k w (.inl rw')⟩)
  cases x <;> first | (unfold dIx at e; simp only [items] at e; cases e; done) | skip
  case str zz =>
    unfold dIx at e
    simp only at e
    split at e
    · rename_i hl
      cases hat : atI zz.cps.toList i with
      | none => rw [hat] at e; cases e
      | some c =>
        rw [hat] at e; cases e
        have := hv.rp rfl
        cases this
        exact .inr (.inr ⟨zz, i, c, rfl, rfl, sz_of hl, hat, k _ (.inl (.str _))⟩)
    · cases e
  case lst => exact seq _ rfl e
  case tup => exact seq _ rfl e
  case scr => exact seq _ rfl e
  case mu => exact seq _ rfl e
  case st =>
    have e : atI S2 i = some z := e
    rcases hv with hv | ⟨_, _, q, _⟩ | ⟨_, p, hp, rfl⟩
    · cases hv
    · cases q
    · obtain ⟨_, vs, hq, r⟩ := st2.1 p hp
      obtain ⟨j, e1, e2, _⟩ := atI_get e
      obtain ⟨w, hw, rw'⟩ := r.get e2
      have hat : atI vs i = some w := by
        unfold atI at e ⊢
        rw [r.length]
        cases hn : ixN S2.length i with
        | none => rw [hn] at e; cases e
        | some j' =>
          have := (ixN_seq hn).1
          rw [e1] at this; cases this
          exact hw
      exact .inl ⟨p, vs, i, w, rfl, rfl, sq_of hq, hat, k w (.inl rw')⟩
/-- tuples -/
theorem d_tup {α : DE → M (List D)} {x1} (h : PA X es (tDA X.K mg E α)) : PE X (.Tuple es x1 pos) (tD X.K mg E (eTup α)) := pe_imp (pe_tup h) fun σ H Q => by
  rintro ⟨H0, ps, F, ρ, S, env, h⟩
  refine ⟨H0, ps, F, ρ, S, env, (Ps.bnd env.st h).imp fun ds S1 F1 H1 g1 st1 h1 vs hv => ?_⟩
  split at h1
  · rename_i hc
    rw [Bool.and_eq_true, decide_eq_true_eq] at hc
    have r := hv.rps hc.1
    refine ⟨sz_of (by rw [r.length]; exact hc.2), fun p hp => ?_⟩
    exact h1.ret _ _ (Grow.new g1.fh hp) (st1.new g1.fh hp) _ (.inl (.tup (st_of upd_same) (r.mono (Ex.new (fresh_back g1.fh hp)))))
  · exact h1.elim
/-- a new list as a value that is kept -/
theorem d_L {l : DE → M (List D)} (h : PE X e (tDL X.K mg E l)) : PE X e (tD X.K mg E (eL l)) := pe_imp h fun σ H Q => by
  rintro ⟨H0, ps, F, ρ, S, env, h⟩
  refine ⟨H0, ps, F, ρ, S, env, (Ps.bnd env.st h).imp fun ds S1 F1 H1 g1 st1 h1 p vs hp r => ?_⟩
  exact h1.ret _ _ (Grow.new g1.fh hp) (st1.new g1.fh hp) _ (.inl (.lst upd_same (r.mono (Ex.new (fresh_back g1.fh hp)))))
theorem l_lst {α : DE → M (List D)} (h : PA X es (tDA X.K mg E α)) : PE X (.List es pos) (tDL X.K mg E (lLst α)) := pe_imp (pe_lst h) fun σ H Q => by
  rintro ⟨H0, ps, F, ρ, S, env, h⟩
  refine ⟨H0, ps, F, ρ, S, env, (Ps.bnd env.st h).imp fun ds S1 F1 H1 g1 st1 h1 vs hv => ?_⟩
  split at h1
  · rename_i hc
    rw [Bool.and_eq_true, decide_eq_true_eq] at hc
    have r := hv.rps hc.1
    exact ⟨sz_of (by rw [r.length]; exact hc.2), fun p hp => h1.ret _ _ (Grow.refl g1.fh) st1 p vs hp r⟩
  · exact h1.elim
end
end DL

namespace DL
open PySem PySem.Spec PyProof.Rows L2 Evl
/-! ### a tuple times an int: nothing, once, many times -/
theorem tmul_same (l : Addr) (xs : Array Value) (n : Nat) (dd : Option Addr) (sl : Array (Option Value)) (k : Int) (u : Tok)
    (k0 : (decide (k < -(2 ^ 63)) || decide (k ≥ 2 ^ 63)) = false) (k1 : (xs.isEmpty || k == 1) = true) :
    Meets (Builtin.«tuple.__mul__» ⟨[.ref l, .int k u], []⟩) (fun _ R s => s.heap.get? l = some ⟨.type "tuple", dd, .seq xs n, sl⟩ ∧ R (.ok (.ret (Value.ref l))) s) :=
  .of_wp fun prog w A R s h => by
    obtain ⟨hp, g, d, tk, os⟩ := s
    obtain ⟨hl, h⟩ := h
    have f1 := AutoSeq1.idx_int
    wp_walk using wpAny_loadPart' hl
    repeat (first
      | (refine wpAny_ite_false (decide_eq_false (by rw [k0]; decide)) ?_
         wp_walk using wpAny_loadPart' hl)
      | (refine wpAny_ite_true (decide_eq_true k1) ?_
         wp_walk using wpAny_loadPart' hl))
    exact ⟨_, rfl, h⟩
theorem tmul_none (l : Addr) (xs : Array Value) (n : Nat) (dd : Option Addr) (sl : Array (Option Value)) (k : Int) (u : Tok)
    (k0 : (decide (k < -(2 ^ 63)) || decide (k ≥ 2 ^ 63)) = false) (k1 : (xs.isEmpty || k == 1) = false) (k2 : (decide (k ≤ 0) || xs.isEmpty) = true) :
    Meets (Builtin.«tuple.__mul__» ⟨[.ref l, .int k u], []⟩) (fun _ R s => s.heap.get? l = some ⟨.type "tuple", dd, .seq xs n, sl⟩ ∧
      R (.ok (.ret (Value.ref s.heap.objs.size))) { s with heap := s.heap.push { cls := Value.type "tuple", data := Data.seq #[] } }) :=
  .of_wp fun prog w A R s h => by
    obtain ⟨hp, g, d, tk, os⟩ := s
    obtain ⟨hl, h⟩ := h
    have f1 := AutoSeq1.idx_int
    wp_walk using wpAny_loadPart' hl
    repeat (first
      | (refine wpAny_ite_false (decide_eq_false (by rw [k0]; decide)) ?_
         wp_walk using wpAny_loadPart' hl)
      | (refine wpAny_ite_false (decide_eq_false (by rw [k1]; decide)) ?_
         wp_walk using wpAny_loadPart' hl)
      | (refine wpAny_ite_true (decide_eq_true k2) ?_
         wp_walk using wpAny_loadPart' hl))
    exact ⟨_, rfl, h⟩

def rTupTimes (K : PySem.W.Frag) : R2 := fun x y H Q => ∃ l k xs, x = .ref l ∧ y = .int k ∧ SqT K H l xs ∧ -1000 ≤ k ∧ k ≤ 1000 ∧ xs.length ≤ 1000 ∧ ((xs = [] ∨ k = 1) → Q (.ref l) H) ∧
  (xs ≠ [] → k ≠ 1 → ∀ p, H p = none → Q (.ref p) (upd H p (.tup (List.replicate k.toNat xs).flatten)))
theorem op_tupTimes {X : Cx} : OpR X (binaryOp .Mult) (rTupTimes X.K) := by
  intro pins s σ H x y v u Q I rx ry h
  by_cases h2 : ∃ l k xs, x = .ref l ∧ y = .int k ∧ SqT X.K H l xs ∧ xs ≠ [] ∧ 2 ≤ k ∧ k ≤ 1000 ∧ xs.length ≤ 1000 ∧ ∀ p, H p = none → Q (.ref p) (upd H p (.tup (List.replicate k.toNat xs).flatten))
  · exact op_repT pins s σ H x y v u Q I rx ry h2
  obtain ⟨l, k, xs, rfl, rfl, hT, b1, b2, b3, q1, q2⟩ := h
  cases rx
  obtain ⟨t, rfl⟩ := ry
  obtain ⟨its, r, ⟨⟨cls, dd, data, sl⟩, ho, hc, n, hd⟩, hs⟩ := I.tuple hT
  simp only at hc hd
  subst hc hd
  have hle : its.length = xs.length := r.length.symm
  have k0 : (decide (k < -(2 ^ 63)) || decide (k ≥ 2 ^ 63)) = false := by
    rw [decide_eq_false (by omega), decide_eq_false (by omega)] <;> rfl
  have em : its.toArray.isEmpty = true ↔ xs = [] := by
    cases its with
    | nil => exact ⟨fun _ => List.eq_nil_of_length_eq_zero hle.symm, fun _ => rfl⟩
    | cons a b => exact ⟨fun e => Bool.noConfusion e, fun e => by subst e; cases hle⟩
  by_cases k1 : (its.toArray.isEmpty || k == 1) = true
  · refine wpAny_binaryOp_repeat_ref (T := "tuple") (U := "int") (by decide) ⟨_, ho, rfl⟩ (fun s' => typeIs_int s' k t) noFill_tuple_mul F.fills_int_mul F.slot_int_rmul repeat_tuple F.slot_int_index.lookup
      (call_meets F.slot_int_rmul (typeIs_int s k t) F.entry_int_rmul (F.args_int_rmul_2 _ _) (int_rmul_tuple k t l its.toArray n dd sl)
        ⟨ho, rfl, ⟨_, ho, rfl⟩, call_meets F.slot_tuple_mul ⟨_, ho, rfl⟩ F.entry_tuple_mul (F.args_tuple_mul_2 _ _) (tmul_same l its.toArray n dd sl k t k0 k1) ⟨ho, ?_⟩⟩)
    refine ⟨.ref l, H, I, rfl, q1 ?_⟩
    rw [Bool.or_eq_true] at k1
    exact k1.elim (fun e => .inl (em.mp e)) fun e => .inr (eq_of_beq e)
  · rw [Bool.not_eq_true] at k1
    have k1' := k1
    rw [Bool.or_eq_false_iff] at k1
    have hx : xs ≠ [] := fun e => by rw [em.mpr e] at k1; cases k1.1
    have hk : k ≠ 1 := fun e => by rw [e] at k1; exact absurd k1.2 (by decide)
    by_cases hk2 : 2 ≤ k
    · exact absurd ⟨l, k, xs, rfl, rfl, hT, hx, hk2, b2, b3, q2 hx hk⟩ h2
    · have k2 : (decide (k ≤ 0) || its.toArray.isEmpty) = true := by rw [decide_eq_true (by omega)]; rfl
      refine wpAny_binaryOp_repeat_ref (T := "tuple") (U := "int") (by decide) ⟨_, ho, rfl⟩ (fun s' => typeIs_int s' k t) noFill_tuple_mul F.fills_int_mul F.slot_int_rmul repeat_tuple F.slot_int_index.lookup
        (call_meets F.slot_int_rmul (typeIs_int s k t) F.entry_int_rmul (F.args_int_rmul_2 _ _) (int_rmul_tuple k t l its.toArray n dd sl)
          ⟨ho, rfl, ⟨_, ho, rfl⟩, call_meets F.slot_tuple_mul ⟨_, ho, rfl⟩ F.entry_tuple_mul (F.args_tuple_mul_2 _ _) (tmul_none l its.toArray n dd sl k t k0 k1' k2) ⟨ho, ?_⟩⟩)
      have q := q2 hx hk
      rw [show k.toNat = 0 by omega] at q
      refine ⟨.ref s.heap.objs.size, _, I.laid (t' := s.toks) (o := .tup []) (fun b ob z => Heap.get?_push_of_some _ z) (Nat.le_refl _) ?_, rfl, q _ (I.hok.fresh (Nat.le_refl _))⟩
      exact ⟨Nat.zero_le _, [], .nil, IsTup.new _ _⟩
/-! ### a text times an int -/
def rStrTimes : R2 := fun x y H Q => ∃ z k, x = V.str z ∧ y = .int k ∧ -1000 ≤ k ∧ k ≤ 1000 ∧ z.length ≤ 1000 ∧ Q (.str (Txt.mul z k)) H
theorem op_strTimes {X : Cx} : OpR X (binaryOp .Mult) rStrTimes := by
  intro pins s σ H x y v u Q I rx ry h
  obtain ⟨z, k, rfl, rfl, b1, b2, b3, q⟩ := h
  obtain ⟨t, rfl⟩ := rx
  obtain ⟨t', rfl⟩ := ry
  have pr : z.length * k.toNat ≤ 1000000 := by
    have : z.length * k.toNat ≤ 1000 * 1000 := Nat.mul_le_mul b3 (by omega)
    omega
  refine SB.mul ⟨?_, fun h1 h2 => ?_, fun h1 h2 => ?_⟩ fun t2 n => ⟨.str (Txt.mul z k), H, I.kept (t' := n) fun _ _ z => z, ⟨_, rfl⟩, q⟩
  · rw [decide_eq_false (by omega), decide_eq_false (by omega)] <;> rfl
  · have : (1000 : Int) ≤ (2 ^ 63 - 1) / k := by
      refine Int.le_ediv_of_mul_le (by omega) ?_
      omega
    omega
  · rw [Builtin.Str.tooLong, sizeLine_eq]
    exact decide_eq_false (by omega)

/-! ### is -/
def rIsD : R2 := fun x y H Q => (y = .non ∧ Q (.bl (decide (x = .non))) H) ∨ rIsB x y H Q
def rIsNotD : R2 := fun x y H Q => (y = .non ∧ Q (.bl (!decide (x = .non))) H) ∨ rNotB x y H Q
theorem op_isD {X : Cx} : OpR X (compareOp .Is) rIsD := op_isN.or op_isBl
theorem op_isNotD {X : Cx} : OpR X (compareOp .IsNot) rIsNotD := op_notN.or op_notBl
/-! ### // and % by a divisor of either sign -/
theorem op_fdivD {X : Cx} : OpR X (binaryOp .FloorDiv) (rI (fun _ j => j ≠ 0 ∧ j.natAbs.log2 < 9000) fun i j => .int (i.fdiv j)) :=
  opI fun _ _ _ _ _ _ _ hc q => floordiv_int hc.1 q (.inl (PyProof.noPylong_of_log2 hc.2))
/-! ### isinstance of exceptions too -/
def KiX (K : PySem.W.Frag) (H : Hp) (x : V) (tv : Value) : Prop := TyX K H x tv ∨ ∃ a C, x = .ref a ∧ tv = .ref C ∧ H a = some (ExO (.ref C) a) ∧ ExcC K C
theorem kix_of {X : Cx} {pins : List (Addr × Obj)} {σ : L2.St} {H : Hp} {s : Shared} {x : V} {u t : Value} (I : Inv X pins σ H s) (rx : RelV x u) (ty : KiX X.K H x t) :
    ∃ P : Heap → Prop, PySem.W.KitX X.K u t P ∧ P s.heap ∧ u ≠ .builtin "__main__.__loader__#opaque" := by
  rcases ty with ty | ⟨a, C, rfl, rfl, ha, hC⟩
  · exact kit_of I rx ty
  · cases rx
    obtain ⟨⟨⟨oc, od, oda, osl⟩, vs, ho, ⟨z1, z2⟩, hd, _⟩, _, _⟩ := I.hok a _ ha
    dsimp only at z1 z2 hd
    subst z1 z2 hd
    exact ⟨_, PySem.W.handS_kitx_exc hC.hg hC.hk hC.hs hC.hd hC.ha hC.hn hC.ht hC.hm, ⟨ho, rfl, rfl, trivial⟩, fun z => nomatch z⟩
def rIsiD (K : PySem.W.Frag) : List V → Hp → VK → Prop := fun xs H Q => ∃ (x c : V) (t u : Value) (b : Bool), xs = [x, c] ∧ ClsV c u ∧ KiX K H x t ∧ PySem.W.kitOne K t u = some b ∧ Q (.bl b) H
def rIsiTD (K : PySem.W.Frag) : List V → Hp → VK → Prop := fun xs H Q => ∃ (x : V) (tp : Addr) (cs : List V) (t : Value) (us : List Value) (b : Bool), xs = [x, .ref tp] ∧ H tp = some (.tup cs) ∧
  Paired ClsV cs us ∧ KiX K H x t ∧ PySem.W.kitAny K t us = some b ∧ Q (.bl b) H
theorem call_isiD {X : Cx} : CallR X (.builtin "isinstance") (rIsiD X.K) := by
  rintro pins s σ H xs us Q I r ⟨x, c, t, u, b, rfl, k, ty, e, q⟩
  obtain ⟨v1, v2, rfl, q1, q2⟩ := vals2 r
  cases k.eq q2
  obtain ⟨P, Z, p, n⟩ := kix_of I q1 ty
  exact PySem.W.kia_one Z I.kIn p e n fun tk => ⟨.bl b, H, I.tok tk, rfl, q⟩
theorem call_isiTD {X : Cx} : CallR X (.builtin "isinstance") (rIsiTD X.K) := by
  rintro pins s σ H xs us Q I r ⟨x, tp, cs, t, ws, b, rfl, hT, k, ty, e, q⟩
  obtain ⟨v1, v2, rfl, q1, q2⟩ := vals2 r
  cases q2
  obtain ⟨P, Z, p, n⟩ := kix_of I q1 ty
  obtain ⟨_, its, rv, ⟨oc, od, dt, sl⟩, h1, h2, m, h3⟩ := I.hok tp _ hT
  cases ClsV.all k rv
  simp only at h2 h3
  subst h2 h3
  exact PySem.W.kia_tup Z I.kIn p h1 e n fun tk => ⟨.bl b, H, I.tok tk, rfl, q⟩
end DL

namespace DL
open PySem PySem.Spec PyProof.Rows L2 Evl

/-! ### operators -/
section
variable {K : PySem.W.Frag} {mg : Str → Option Value}
def rAddD (K : PySem.W.Frag) : R2 := fun x y H Q => rI0 (fun i j => .int (i + j)) x y H Q ∨ (∃ i j, x = V.str i ∧ y = .str j ∧ i.length + j.length ≤ sizeLine ∧ Q (.str (i ++ j)) H) ∨ rCatA K x y H Q ∨ rCat x y H Q
theorem op_addD {X : Cx} : OpR X (binaryOp .Add) (rAddD X.K) := op_add.or (op_add_str.or (op_catA.or op_cat))
/-- two values that need no heap -/
theorem op2_flat {r : R2} {f : D → D → Option D} (h : ∀ d e z, f d e = some z → DL.dat d = true ∧ DL.dat e = true ∧ (∀ (F H : Hp) x y (Q : VK), Rp K mg F x d → Rp K mg F y e → (∀ v, (∀ F, Rp K mg F v z) → Q v H) → r x y H Q)) : Op2 K mg r f := by
  intro H0 ps F H σ ρ S x y d e z Q env hx hy hf k
  obtain ⟨h1, h2, h3⟩ := h d e z hf
  exact h3 F H x y Q (hx.rp h1) (hy.rp h2) fun v hv => k v F H (Grow.refl env.fh) env.st (.inl (hv F))
theorem op1_flat {r : V → Hp → VK → Prop} {f : D → Option D} (h : ∀ d z, f d = some z → DL.dat d = true ∧ (∀ (F H : Hp) x (Q : VK), Rp K mg F x d → (∀ v, (∀ F, Rp K mg F v z) → Q v H) → r x H Q)) : Op1 K mg r f := by
  intro H0 ps F H σ ρ S x d z Q env hx hf k
  obtain ⟨h1, h3⟩ := h d z hf
  exact h3 F H x Q (hx.rp h1) fun v hv => k v F H (Grow.refl env.fh) env.st (.inl (hv F))
theorem s_add : Op2 K mg (rAddD K) dAdd := by
  intro H0 ps F H σ ρ S x y d e z Q env hx hy hf k
  unfold dAdd at hf
  split at hf
  · cases hf
    have hx := hx.rp rfl
    have hy := hy.rp rfl
    cases hx; cases hy
    exact .inl ⟨_, _, rfl, rfl, k _ F H (Grow.refl env.fh) env.st (.inl (.int _))⟩
  · split at hf
    · rename_i hl
      cases hf
      have hx := hx.rp rfl
      have hy := hy.rp rfl
      cases hx; cases hy
      exact .inr (.inl ⟨_, _, rfl, rfl, sz_of hl, k _ F H (Grow.refl env.fh) env.st (.inl (.str _))⟩)
    · cases hf
  · split at hf
    · rename_i xs ys hl
      cases hf
      have hx := hx.rp rfl
      have hy := hy.rp rfl
      cases hx with
      | tup q1 r1 =>
        rename_i a vs
        cases hy with
        | tup q2 r2 =>
          rename_i b ws
          refine .inr (.inr (.inl ⟨a, b, vs, ws, rfl, rfl, ex_t env.fh q1, ex_t env.fh q2, by rw [r1.length, r2.length]; exact sz_of hl, fun h => ?_, fun h1 h2 => ?_, fun h1 h2 p hp => ?_⟩))
          · subst h
            cases r1
            exact k _ F H (Grow.refl env.fh) env.st (.inl (.tup q2 r2))
          · subst h2
            cases r2
            rw [List.append_nil] at k
            exact k _ F H (Grow.refl env.fh) env.st (.inl (.tup q1 r1))
          · exact k _ _ _ (Grow.new env.fh hp) (env.st.new env.fh hp) (.inl (.tup (st_of upd_same) ((r1.append r2).mono (Ex.new (fresh_back env.fh hp)))))
    · cases hf
  · split at hf
    · rename_i xs ys hl
      cases hf
      have hx := hx.rp rfl
      have hy := hy.rp rfl
      cases hx with
      | lst q1 r1 =>
        cases hy with
        | lst q2 r2 =>
          exact .inr (.inr (.inr ⟨_, _, _, _, rfl, rfl, env.fh _ _ q1, env.fh _ _ q2, by rw [r1.length, r2.length]; exact sz_of hl, fun p hp =>
            k _ _ _ (Grow.new env.fh hp) (env.st.new env.fh hp) (.inl (.lst upd_same ((r1.append r2).mono (Ex.new (fresh_back env.fh hp)))))⟩))
    · cases hf
  · cases hf
theorem s_sub : Op2 K mg (rI0 fun i j => .int (i - j)) dSub := op2_flat fun d e z h => by
  unfold dSub at h
  split at h
  · cases h
    refine ⟨rfl, rfl, fun F H x y Q hx hy k => ?_⟩
    cases hx; cases hy
    exact ⟨_, _, rfl, rfl, k _ fun _ => .int _⟩
  · cases h
def rMulD (K : PySem.W.Frag) : R2 := fun x y H Q => rI CMulW (fun i j => .int (i * j)) x y H Q ∨ rI CMul (fun i j => .int (i * j)) x y H Q ∨ rRep x y H Q ∨ rTupTimes K x y H Q ∨ rStrTimes x y H Q
theorem op_mulD {X : Cx} : OpR X (binaryOp .Mult) (rMulD X.K) := op_mulW.or (op_mul.or (op_rep.or (op_tupTimes.or op_strTimes)))
theorem s_mul : Op2 K mg (rMulD K) dMul := by
  intro H0 ps F H σ ρ S x y d e z Q env hx hy h k
  unfold dMul at h
  split at h
  · split at h
    · rename_i i j hm
      cases h
      have hx := hx.rp rfl
      have hy := hy.rp rfl
      cases hx; cases hy
      unfold mulOk at hm
      rw [Bool.or_eq_true, Bool.and_eq_true, decide_eq_true_eq, decide_eq_true_eq, decide_eq_true_eq] at hm
      have k := k _ F H (Grow.refl env.fh) env.st (.inl (.int _))
      rcases hm with hm | hm
      · exact .inl ⟨_, _, rfl, rfl, hm, k⟩
      · exact .inr (.inl ⟨_, _, rfl, rfl, .inr hm, k⟩)
    · cases h
  · split at h
    · rename_i xs n hm
      cases h
      have hx := hx.rp rfl
      have hy := hy.rp rfl
      cases hx with
      | lst q r =>
        cases hy
        exact .inr (.inr (.inl ⟨_, _, _, rfl, rfl, env.fh _ _ q, by have := hm.2.1; omega, by have := hm.1; omega, by rw [r.length]; exact sz_of hm.2.2, fun p hp =>
          k _ _ _ (Grow.new env.fh hp) (env.st.new env.fh hp) (.inl (.lst upd_same ((r.flat _).mono (Ex.new (fresh_back env.fh hp)))))⟩))
    · cases h
  · split at h
    · rename_i xs n hm
      cases h
      have hx := hx.rp rfl
      have hy := hy.rp rfl
      cases hx with
      | @tup l vs _ q r =>
        cases hy
        refine .inr (.inr (.inr (.inl ⟨l, n, vs, rfl, rfl, ex_t env.fh q, hm.2.1, hm.1, by rw [r.length]; exact hm.2.2, fun e => ?_, fun _ _ p hp =>
          k _ _ _ (Grow.new env.fh hp) (env.st.new env.fh hp) (.inl (.tup (st_of upd_same) ((r.flat _).mono (Ex.new (fresh_back env.fh hp)))))⟩)))
        refine k _ F H (Grow.refl env.fh) env.st (.inl (.tup q ?_))
        rcases e with e | e
        · subst e
          cases r
          have e0 : ∀ m : Nat, (List.replicate m ([] : List D)).flatten = [] := fun m => by
            induction m with
            | zero => rfl
            | succ m ih => rw [List.replicate_succ, List.flatten_cons, ih]; rfl
          rw [e0]; exact .nil
        · subst e
          have e1 : (List.replicate (1 : Int).toNat xs).flatten = xs := by
            show (List.replicate 1 xs).flatten = xs
            rw [List.replicate_one, List.flatten_cons, List.flatten_nil, List.append_nil]
          rw [e1]; exact r
    · cases h
  · split at h
    · rename_i z n hm
      cases h
      have hx := hx.rp rfl
      have hy := hy.rp rfl
      cases hx; cases hy
      exact .inr (.inr (.inr (.inr ⟨_, _, rfl, rfl, hm.2.1, hm.1, hm.2.2, k _ F H (Grow.refl env.fh) env.st (.inl (.str _))⟩)))
    · cases h
  · cases h
theorem s_fdiv : Op2 K mg (rI (fun _ j => j ≠ 0 ∧ j.natAbs.log2 < 9000) fun i j => .int (i.fdiv j)) dFdiv := op2_flat fun d e z h => by
  unfold dFdiv at h
  split at h
  · split at h
    · rename_i i j hm
      cases h
      refine ⟨rfl, rfl, fun F H x y Q hx hy k => ?_⟩
      cases hx; cases hy
      refine ⟨_, _, rfl, rfl, ⟨by omega, hm.2⟩, k _ fun _ => ?_⟩
      show Rp K mg _ (.int (i.fdiv j)) _
      rw [Int.fdiv_eq_ediv_of_nonneg _ (by omega)]
      exact .int _
    · split at h
      · rename_i i j _ hm
        cases h
        refine ⟨rfl, rfl, fun F H x y Q hx hy k => ?_⟩
        cases hx; cases hy
        exact ⟨_, _, rfl, rfl, ⟨by omega, hm.2⟩, k _ fun _ => .int _⟩
      · cases h
  · cases h
theorem s_mod : Op2 K mg (rI (fun _ j => j ≠ 0) fun i j => .int (i.fmod j)) dMod := op2_flat fun d e z h => by
  unfold dMod at h
  split at h
  · split at h
    · rename_i i j hm
      cases h
      refine ⟨rfl, rfl, fun F H x y Q hx hy k => ?_⟩
      cases hx; cases hy
      refine ⟨_, _, rfl, rfl, by omega, k _ fun _ => ?_⟩
      show Rp K mg _ (.int (i.fmod j)) _
      rw [Int.fmod_eq_emod_of_nonneg _ (by omega)]
      exact .int _
    · split at h
      · rename_i i j _ hm
        cases h
        refine ⟨rfl, rfl, fun F H x y Q hx hy k => ?_⟩
        cases hx; cases hy
        exact ⟨_, _, rfl, rfl, by omega, k _ fun _ => .int _⟩
      · cases h
  · cases h
theorem Rp.non_iff {F : Hp} {x : V} {d : D} (r : Rp K mg F x d) : decide (x = .non) = isNon d := by cases r <;> first | rfl | exact decide_eq_false (fun z => nomatch z)
theorem VR.non_iff {ps : Option Addr} {σ : L2.St} {ρ : DE} {S : List D} {H0 F H : Hp} {x : V} {d : D} (env : En K mg H0 ps F H σ ρ S) (r : VR K mg ps σ ρ F x d) : decide (x = .non) = isNon d := by
  rcases r with r | ⟨i, xs, rfl, h1, h2⟩ | ⟨rfl, p, _, rfl⟩
  · exact r.non_iff
  · obtain ⟨w, h3, h4⟩ := env.sl i _ h1
    rw [h2] at h3; cases h3
    rcases h4 with h4 | ⟨zs, e, p, vs, rfl, _⟩ | ⟨e, _⟩
    · cases h4
    · exact decide_eq_false fun z => nomatch z
    · cases e
  · exact decide_eq_false fun z => nomatch z
theorem s_is : Op2 K mg rIsD dIs := by
  intro H0 ps F H σ ρ S x y d e z Q env hx hy h k
  unfold dIs at h
  split at h
  · cases h
    have hy := hy.rp rfl
    cases hy
    exact .inl ⟨rfl, by rw [VR.non_iff env hx]; exact k _ F H (Grow.refl env.fh) env.st (.inl (.bl _))⟩
  · split at h
    · cases h
      have hx := hx.rp rfl
      have hy := hy.rp rfl
      cases hx; cases hy
      exact .inr ⟨_, _, rfl, rfl, k _ F H (Grow.refl env.fh) env.st (.inl (.bl _))⟩
    · cases h
  · cases h
theorem s_isN : Op2 K mg rIsNotD dIsN := by
  intro H0 ps F H σ ρ S x y d e z Q env hx hy h k
  unfold dIsN at h
  split at h
  · cases h
    have hy := hy.rp rfl
    cases hy
    exact .inl ⟨rfl, by rw [VR.non_iff env hx]; exact k _ F H (Grow.refl env.fh) env.st (.inl (.bl _))⟩
  · split at h
    · cases h
      have hx := hx.rp rfl
      have hy := hy.rp rfl
      cases hx; cases hy
      exact .inr ⟨_, _, rfl, rfl, k _ F H (Grow.refl env.fh) env.st (.inl (.bl _))⟩
    · cases h
  · cases h
theorem s_pow : Op2 K mg (rI CPow fun i j => .int (i ^ j.toNat)) dPow := op2_flat fun d e z h => by
  unfold dPow at h
  split at h
  · split at h
    · rename_i i j hm
      cases h
      refine ⟨rfl, rfl, fun F H x y Q hx hy k => ?_⟩
      cases hx; cases hy
      exact ⟨_, _, rfl, rfl, hm, k _ fun _ => .int _⟩
    · cases h
  · cases h
theorem s_neg : Op1 K mg (rU fun i => .int (-i)) dNeg := op1_flat fun d z h => by
  unfold dNeg at h
  split at h
  · cases h
    refine ⟨rfl, fun F H x Q hx k => ?_⟩
    cases hx
    exact ⟨_, rfl, k _ fun _ => .int _⟩
  · cases h
theorem s_lt : Op2 K mg (rI0 fun i j => .bl (decide (i < j))) dLt := op2_flat fun d e z h => by
  unfold dLt at h
  split at h
  · cases h
    refine ⟨rfl, rfl, fun F H x y Q hx hy k => ?_⟩
    cases hx; cases hy
    exact ⟨_, _, rfl, rfl, k _ fun _ => .bl _⟩
  · cases h
theorem s_le : Op2 K mg (rI0 fun i j => .bl (decide (i ≤ j))) dLe := op2_flat fun d e z h => by
  unfold dLe at h
  split at h
  · cases h
    refine ⟨rfl, rfl, fun F H x y Q hx hy k => ?_⟩
    cases hx; cases hy
    exact ⟨_, _, rfl, rfl, k _ fun _ => .bl _⟩
  · cases h
theorem s_gt : Op2 K mg (rI0 fun i j => .bl (decide (j < i))) dGt := op2_flat fun d e z h => by
  unfold dGt at h
  split at h
  · cases h
    refine ⟨rfl, rfl, fun F H x y Q hx hy k => ?_⟩
    cases hx; cases hy
    exact ⟨_, _, rfl, rfl, k _ fun _ => .bl _⟩
  · cases h
theorem s_ge : Op2 K mg (rI0 fun i j => .bl (decide (j ≤ i))) dGe := op2_flat fun d e z h => by
  unfold dGe at h
  split at h
  · cases h
    refine ⟨rfl, rfl, fun F H x y Q hx hy k => ?_⟩
    cases hx; cases hy
    exact ⟨_, _, rfl, rfl, k _ fun _ => .bl _⟩
  · cases h
theorem toPy_dat {d : D} {p : PyData} (h : toPy d = some p) : DL.dat d = true := by
  cases d <;> first | rfl | (unfold toPy at h; cases h)
theorem dEqB_some {a b : D} {t : Bool} (h : dEqB a b = some t) : ∃ p q, toPy a = some p ∧ toPy b = some q ∧ SeqAt.shaped p = true ∧ SeqAt.shaped q = true ∧ t = PyData.eqv p q := by
  unfold dEqB at h
  split at h
  · rename_i p q h1 h2
    split at h
    · rename_i h3
      rw [Bool.and_eq_true] at h3
      cases h
      exact ⟨p, q, h1, h2, h3.1, h3.2, rfl⟩
    · cases h
  · cases h
def rEqDD (K : PySem.W.Frag) : R2 := fun x y H Q => (∃ i j, x = V.int i ∧ y = .int j ∧ Q (.bl (decide (i = j))) H) ∨ rEqD K x y H Q
def rNeDD (K : PySem.W.Frag) : R2 := fun x y H Q => (∃ i j, x = V.int i ∧ y = .int j ∧ Q (.bl (!decide (i = j))) H) ∨ rNeD K x y H Q
theorem op_eqDD {X : Cx} (hu : X.A.units + 64 < cLine) : OpR X (compareOp .Eq) (rEqDD X.K) := by
  refine OpR.or (r := fun x y H Q => ∃ i j, x = V.int i ∧ y = .int j ∧ Q (.bl (decide (i = j))) H) ?_ (op_eqD hu)
  intro pins s σ H x y v u Q I rx ry h
  obtain ⟨i, j, rfl, rfl, q⟩ := h
  refine op_eq pins s σ H (.int i) (.int j) v u Q I rx ry ⟨rfl, ?_⟩
  rw [dec_int, show (i == j) = decide (i = j) from Bool.beq_eq_decide_eq i j]; exact q
theorem op_neDD {X : Cx} (hu : X.A.units + 64 < cLine) : OpR X (compareOp .NotEq) (rNeDD X.K) := by
  refine OpR.or (r := fun x y H Q => ∃ i j, x = V.int i ∧ y = .int j ∧ Q (.bl (!decide (i = j))) H) ?_ (op_neD hu)
  intro pins s σ H x y v u Q I rx ry h
  obtain ⟨i, j, rfl, rfl, q⟩ := h
  refine op_ne pins s σ H (.int i) (.int j) v u Q I rx ry ⟨rfl, ?_⟩
  rw [dec_int, show (i == j) = decide (i = j) from Bool.beq_eq_decide_eq i j]; exact q
theorem dEq_cases {d e z : D} (h : dEq d e = some z) : (∃ i j, d = .int i ∧ e = .int j ∧ z = .bl (decide (i = j))) ∨ ∃ t, dEqB d e = some t ∧ z = .bl t := by
  unfold dEq at h
  split at h
  · cases h; exact .inl ⟨_, _, rfl, rfl, rfl⟩
  · cases q : dEqB d e with
    | none => rw [q] at h; cases h
    | some t => rw [q] at h; cases h; exact .inr ⟨t, rfl, rfl⟩
theorem dNe_cases {d e z : D} (h : dNe d e = some z) : (∃ i j, d = .int i ∧ e = .int j ∧ z = .bl (!decide (i = j))) ∨ ∃ t, dEqB d e = some t ∧ z = .bl (!t) := by
  unfold dNe at h
  split at h
  · cases h; exact .inl ⟨_, _, rfl, rfl, rfl⟩
  · cases q : dEqB d e with
    | none => rw [q] at h; cases h
    | some t => rw [q] at h; cases h; exact .inr ⟨t, rfl, rfl⟩
theorem s_eq : Op2 K mg (rEqDD K) dEq := by
  intro H0 ps F H σ ρ S x y d e z Q env hx hy hf k
  rcases dEq_cases hf with ⟨i, j, rfl, rfl, rfl⟩ | ⟨t, h, rfl⟩
  · have hx := hx.rp rfl
    have hy := hy.rp rfl
    cases hx; cases hy
    exact .inl ⟨_, _, rfl, rfl, k _ F H (Grow.refl env.fh) env.st (.inl (.bl _))⟩
  · obtain ⟨p, q, h1, h2, h3, h4, rfl⟩ := dEqB_some h
    exact .inr ⟨p, q, Rp.dp env.fh _ (hx.rp (toPy_dat h1)) h1, Rp.dp env.fh _ (hy.rp (toPy_dat h2)) h2, h3, h4, k _ F H (Grow.refl env.fh) env.st (.inl (.bl _))⟩
theorem s_ne : Op2 K mg (rNeDD K) dNe := by
  intro H0 ps F H σ ρ S x y d e z Q env hx hy hf k
  rcases dNe_cases hf with ⟨i, j, rfl, rfl, rfl⟩ | ⟨t, h, rfl⟩
  · have hx := hx.rp rfl
    have hy := hy.rp rfl
    cases hx; cases hy
    exact .inl ⟨_, _, rfl, rfl, k _ F H (Grow.refl env.fh) env.st (.inl (.bl _))⟩
  · obtain ⟨p, q, h1, h2, h3, h4, rfl⟩ := dEqB_some h
    exact .inr ⟨p, q, Rp.dp env.fh _ (hx.rp (toPy_dat h1)) h1, Rp.dp env.fh _ (hy.rp (toPy_dat h2)) h2, h3, h4, k _ F H (Grow.refl env.fh) env.st (.inl (.bl _))⟩

/-! ### builtins -/
theorem opN_flat1 {r : List V → Hp → VK → Prop} {f : D → Option D} (h : ∀ (H0 : Hp) (ps : Option Addr) (F H : Hp) (σ : L2.St) (ρ : DE) (S : List D) (x : V) (d z : D) (Q : VK),
    En K mg H0 ps F H σ ρ S → VR K mg ps σ ρ F x d → f d = some z → (∀ v F' H', Grow ps F H F' H' → StR K mg ps F' H' S → VR K mg ps σ ρ F' v z → Q v H') → r [x] H Q) : OpN K mg r (f1 f) := by
  intro H0 ps F H σ ρ S xs ds z Q env hx hf k
  unfold f1 at hf
  split at hf
  · rename_i d
    cases hx with
    | cons a r => cases r; exact h H0 ps F H σ ρ S _ d z Q env a hf k
  · cases hf
theorem s_len : OpN K mg (fun xs H Q => ∃ x n, xs = [x] ∧ LenV K x H n ∧ Q (.int n) H) (f1 dLen) := opN_flat1 fun H0 ps F H σ ρ S x d z Q env hx hf k => by
  have seq : ∀ xs, items d = some xs → z = .int xs.length → ∃ x' n, [x] = [x'] ∧ LenV K x' H n ∧ Q (.int n) H := by
    intro xs h1 h2
    subst h2
    obtain ⟨p, vs, rfl, hq, r⟩ := env.items hx h1
    refine ⟨_, vs.length, rfl, ?_, by rw [r.length]; exact k _ F H (Grow.refl env.fh) env.st (.inl (.int _))⟩
    rcases hq with hq | hq
    · exact .inl ⟨vs, hq, rfl⟩
    · exact .inr ⟨vs, hq, rfl⟩
  unfold dLen at hf
  split at hf
  · split at hf
    · rename_i s hl
      cases hf
      have hx := hx.rp rfl
      cases hx
      exact ⟨_, _, rfl, ⟨sz_of hl, rfl⟩, k _ F H (Grow.refl env.fh) env.st (.inl (.int _))⟩
    · cases hf
  · cases q : items d with
    | none => rw [q] at hf; cases hf
    | some xs => rw [q] at hf; cases hf; exact seq xs q rfl
theorem s_abs : OpN K mg (fun xs H Q => ∃ i, xs = [V.int i] ∧ Q (.int (if i < 0 then -i else i)) H) (f1 dAbs) := opN_flat1 fun H0 ps F H σ ρ S x d z Q env hx hf k => by
  unfold dAbs at hf
  split at hf
  · cases hf
    have hx := hx.rp rfl
    cases hx
    exact ⟨_, rfl, k _ F H (Grow.refl env.fh) env.st (.inl (.int _))⟩
  · cases hf
theorem s_int : OpN K mg (fun xs H Q => (∃ i, xs = [V.int i] ∧ Q (.int i) H) ∨ ∃ k, xs = [V.bl k] ∧ Q (.int (if k then 1 else 0)) H) (f1 dInt) := opN_flat1 fun H0 ps F H σ ρ S x d z Q env hx hf k => by
  unfold dInt at hf
  split at hf
  · cases hf
    have hx := hx.rp rfl
    cases hx
    exact .inl ⟨_, rfl, k _ F H (Grow.refl env.fh) env.st (.inl (.int _))⟩
  · cases hf
    have hx := hx.rp rfl
    cases hx
    exact .inr ⟨_, rfl, k _ F H (Grow.refl env.fh) env.st (.inl (.int _))⟩
  · cases hf
theorem s_tuple : OpN K mg (fun xs H Q => ∃ p ys, xs = [V.ref p] ∧ ((SqL K H p ys ∧ ∀ l, H l = none → Q (.ref l) (upd H l (.tup ys))) ∨ (SqT K H p ys ∧ Q (.ref p) H))) (f1 dTuple) := opN_flat1 fun H0 ps F H σ ρ S x d z Q env hx hf k => by
  unfold dTuple at hf
  split at hf
  · cases hf
    have hx := hx.rp rfl
    cases hx with
    | tup q r => exact ⟨_, _, rfl, .inr ⟨ex_t env.fh q, k _ F H (Grow.refl env.fh) env.st (.inl (.tup q r))⟩⟩
  · rename_i hnt
    cases q : items d with
    | none => rw [q] at hf; cases hf
    | some xs =>
      rw [q] at hf; cases hf
      obtain ⟨p, vs, rfl, hq, r⟩ := env.items hx q
      rcases hq with hq | hq
      · exact ⟨p, vs, rfl, .inl ⟨hq, fun l hl => k _ _ _ (Grow.new env.fh hl) (env.st.new env.fh hl) (.inl (.tup (st_of upd_same) (r.mono (Ex.new (fresh_back env.fh hl)))))⟩⟩
      · cases d <;> first | (cases q; done) | skip
        all_goals cases q
        · have hx := hx.rp rfl
          cases hx with
          | lst q2 r2 =>
            exact ⟨p, _, rfl, .inl ⟨sq_of (env.fh _ _ q2), fun l hl => k _ _ _ (Grow.new env.fh hl) (env.st.new env.fh hl) (.inl (.tup (st_of upd_same) (r2.mono (Ex.new (fresh_back env.fh hl)))))⟩⟩
        · exact absurd rfl (hnt _)
        · have hx := hx.rp rfl
          cases hx with
          | scr q2 r2 =>
            exact ⟨p, _, rfl, .inl ⟨ex_l env.fh q2, fun l hl => k _ _ _ (Grow.new env.fh hl) (env.st.new env.fh hl) (.inl (.tup (st_of upd_same) (r2.mono (Ex.new (fresh_back env.fh hl)))))⟩⟩
        · rcases hx with hx | ⟨i, ys, e, h1, h2⟩ | ⟨e, _⟩
          · cases hx
          · cases e
            obtain ⟨w, h3, h4⟩ := env.sl i _ h1
            rw [h2] at h3; cases h3
            rcases h4 with h4 | ⟨zs, e, m⟩ | ⟨e, _⟩
            · cases h4
            · cases e
              obtain ⟨p', vs', e, _, m2, m3, _⟩ := m
              cases e
              exact ⟨p, _, rfl, .inl ⟨sq_of m2, fun l hl => k _ _ _ (Grow.new env.fh hl) (env.st.new env.fh hl) (.inl (.tup (st_of upd_same) (m3.mono (Ex.new (fresh_back env.fh hl)))))⟩⟩
            · cases e
          · cases e
theorem s_sum : OpN K mg (rSum K) (f1 dSum) := opN_flat1 fun H0 ps F H σ ρ S x d z Q env hx hf k => by
  unfold dSum at hf
  split at hf
  · rename_i xs
    cases q : intsOf xs with
    | none => rw [q] at hf; cases hf
    | some is =>
      rw [q] at hf; cases hf
      have hx := hx.rp rfl
      cases hx with
      | lst q2 r2 =>
        have e := r2.ints q
        subst e
        exact ⟨_, is, rfl, sq_of (env.fh _ _ q2), k _ F H (Grow.refl env.fh) env.st (.inl (.int _))⟩
  · cases hf
theorem s_all : OpN K mg (rAll K) (f1 dAll) := opN_flat1 fun H0 ps F H σ ρ S x d z Q env hx hf k => by
  unfold dAll at hf
  split at hf
  · rename_i xs
    cases q : boolsOf xs with
    | none => rw [q] at hf; cases hf
    | some is =>
      rw [q] at hf; cases hf
      have hx := hx.rp rfl
      cases hx with
      | lst q2 r2 =>
        have e := r2.bools q
        subst e
        exact ⟨_, is, rfl, sq_of (env.fh _ _ q2), k _ F H (Grow.refl env.fh) env.st (.inl (.bl _))⟩
  · cases hf
theorem s_any : OpN K mg (rAny K) (f1 dAny) := opN_flat1 fun H0 ps F H σ ρ S x d z Q env hx hf k => by
  unfold dAny at hf
  split at hf
  · rename_i xs
    cases q : boolsOf xs with
    | none => rw [q] at hf; cases hf
    | some is =>
      rw [q] at hf; cases hf
      have hx := hx.rp rfl
      cases hx with
      | lst q2 r2 =>
        have e := r2.bools q
        subst e
        exact ⟨_, is, rfl, sq_of (env.fh _ _ q2), k _ F H (Grow.refl env.fh) env.st (.inl (.bl _))⟩
  · cases hf
theorem kitB_of : ∀ a ∈ ["NoneType", "int", "bool", "str", "list", "tuple"], ∀ b ∈ kinds, kitB a b = some (isT a b) := by decide +kernel
theorem sqT_ty {H : Hp} {a : Addr} {vs : List V} (h : SqT K H a vs) : TyX K H (.ref a) (.type "tuple") := by
  rcases h with (h | ⟨o, h⟩) | ⟨o, its, n, h, c, _⟩
  · exact .base (.tup h)
  · exact .fTuple h
  · exact .kTuple h c
/-- the type of a value at hand -/
theorem En.tyx {H0 : Hp} {ps : Option Addr} {F H : Hp} {σ : L2.St} {ρ : DE} {S : List D} {x : V} {d : D} {t : String} (env : En K mg H0 ps F H σ ρ S) (hx : VR K mg ps σ ρ F x d) (h : tyName d = some t) :
    ∃ tv, KiX K H x tv ∧ ∀ n ∈ kinds, PySem.W.kitOne K tv (.type n) = some (isT t n) := by
  have base : ∀ t' : String, TyX K H x (.type t') → t' ∈ ["NoneType", "int", "bool", "str", "list", "tuple"] → t = t' → ∃ tv, KiX K H x tv ∧ ∀ n ∈ kinds, PySem.W.kitOne K tv (.type n) = some (isT t n) := by
    intro t' h1 h2 e
    subst e
    exact ⟨_, .inl h1, fun n hn => kit_ty (kitB_of t h2 n hn)⟩
  cases d <;> first | (cases h; done) | skip
  all_goals cases h
  · have := hx.rp rfl; cases this; exact base _ (.base .non) (by decide) rfl
  · have := hx.rp rfl; cases this; exact base _ (.base (.bl _)) (by decide) rfl
  · have := hx.rp rfl; cases this; exact base _ (.base (.int _)) (by decide) rfl
  · have := hx.rp rfl; cases this; exact base _ (.base (.str _)) (by decide) rfl
  · have := hx.rp rfl
    cases this with
    | lst q r => exact base _ (.base (.lst (env.fh _ _ q))) (by decide) rfl
  · have := hx.rp rfl
    cases this with
    | tup q r => exact base _ (sqT_ty (ex_t env.fh q)) (by decide) rfl
  · rcases hx with hx | ⟨i, ys, e, h1, h2⟩ | ⟨e, _⟩
    · cases hx
    · cases e
      obtain ⟨w, h3, h4⟩ := env.sl i _ h1
      rw [h2] at h3; cases h3
      rcases h4 with h4 | ⟨zs, e, m⟩ | ⟨e, _⟩
      · cases h4
      · cases e
        obtain ⟨p', vs', e, _, m2, _⟩ := m
        cases e
        exact base _ (.base (.lst m2)) (by decide) rfl
      · cases e
    · cases e
  · have := hx.rp rfl
    cases this with
    | @exn a C _ h1 h2 h3 =>
      refine ⟨_, .inr ⟨a, C, rfl, rfl, env.fh _ _ h2, h3.is⟩, fun n hn => ?_⟩
      rw [h3.no n hn]
      revert n
      decide
theorem s_isi : OpN K mg (rIsiD K) (f2 dIsi) := by
  intro H0 ps F H σ ρ S xs ds z Q env hx hf k
  unfold f2 at hf
  split at hf
  · rename_i d e
    cases hx with
    | cons a r =>
      cases r with
      | cons b r =>
        cases r
        unfold dIsi at hf
        split at hf
        · rename_i n
          split at hf
          · rename_i hn
            cases q : tyName d with
            | none => rw [q] at hf; cases hf
            | some t =>
              rw [q] at hf; cases hf
              have hb := b.rp rfl
              cases hb
              obtain ⟨tv, h1, h2⟩ := env.tyx a q
              exact ⟨_, _, _, _, _, rfl, .ty n, h1, h2 n (List.contains_iff_mem.mp hn), k _ F H (Grow.refl env.fh) env.st (.inl (.bl _))⟩
          · cases hf
        · cases hf
  · cases hf
end
end DL

namespace DL
open PySem PySem.Spec PyProof.Rows L2 Evl
section
variable {X : Cx} {mg : Str → Option Value} {E : XK} {a b e c : Expr} {es : List Expr} {φ ψ : DE → M D} {τ υ : DE → M Bool} {pos : Pos}
/-! ### tests -/
theorem t_val (h : PE X e (tD X.K mg E φ)) (he : ∀ whole, isTrue e X.env whole = (do let v ← whole; standAt e.pos; holding [v] (truthy v)) := by intro _; rfl) : PT X e (tDT X.K mg E (tV φ)) := pt_imp (pt_val h he) fun σ H Q => by
  rintro ⟨H0, ps, F, ρ, S, env, h⟩
  refine ⟨H0, ps, F, ρ, S, env, (Ps.bnd env.st h).imp fun x S1 F1 H1 g1 st1 h1 v hv => ?_⟩
  obtain ⟨z, ez, k⟩ := h1.opt
  cases x <;> first | (cases ez; done) | skip
  cases ez
  have hv := hv.rp rfl
  cases hv
  exact ⟨_, rfl, k F1 H1 (Grow.refl g1.fh) st1⟩
theorem t_tru (h : PE X e (tD X.K mg E φ)) (he : ∀ whole, isTrue e X.env whole = (do let v ← whole; standAt e.pos; holding [v] (truthy v)) := by intro _; rfl) : PT X e (tDT X.K mg E (tT φ)) := pt_imp (pt_truth h he) fun σ H Q => by
  rintro ⟨H0, ps, F, ρ, S, env, h⟩
  refine ⟨H0, ps, F, ρ, S, env, (Ps.bnd env.st h).imp fun x S1 F1 H1 g1 st1 h1 v hv => ?_⟩
  obtain ⟨z, ez, k⟩ := h1.opt
  have k := k F1 H1 (Grow.refl g1.fh) st1
  cases x <;> first | (cases ez; done) | skip
  all_goals (have hv := hv.rp rfl; cases hv)
  · cases ez; exact ⟨_, rfl, k⟩
  · cases ez; exact ⟨_, rfl, k⟩
  · cases ez; exact ⟨_, rfl, k⟩
  · unfold dTru at ez
    simp only at ez
    split at ez
    · rename_i hl
      cases ez; exact ⟨_, ⟨sz_of hl, rfl⟩, k⟩
    · cases ez
  · rename_i q r
    cases ez
    refine ⟨_, .inl ⟨_, sq_of (g1.fh _ _ q), ?_⟩, k⟩
    cases r <;> rfl
  · rename_i q r
    cases ez
    refine ⟨_, .inr (.inl ⟨_, ex_t g1.fh q, ?_⟩), k⟩
    cases r <;> rfl
theorem t_cmp {op : CmpOp} {r : R2} {f : D → D → Option D} (ho : OpR X (compareOp op) r) (hf : Op2 X.K mg r f) (ha : PE X a (tD X.K mg E φ)) (hb : PE X b (tD X.K mg E ψ)) (hm : behindInMarks op b = false) : PT X (.Compare a [op] [b] pos) (tDT X.K mg E (tV (e2 f φ ψ))) := pt_imp (pt_cmpR ho ha hb hm) fun σ H Q => by
  rintro ⟨H0, ps, F, ρ, S, env, h⟩
  have e : tDT X.K mg E (tV (e2 f φ ψ)) = tDT X.K mg E fun ρ => bnd (e2 f φ ψ ρ) fun x => opt (boolOf x) := rfl
  refine go2 (φ := φ) (ψ := ψ) (E := E) hf σ H (fun x H' => ∃ k, x = .bl k ∧ Q k H') ⟨H0, ps, F, ρ, S, env, (Ps.bnd env.st h).imp fun x S1 F1 H1 g1 st1 h1 v hv => ?_⟩
  obtain ⟨z, ez, k⟩ := h1.opt
  cases x <;> first | (cases ez; done) | skip
  cases ez
  have hv := hv.rp rfl
  cases hv
  exact ⟨_, rfl, k F1 H1 (Grow.refl g1.fh) st1⟩
theorem t_not (h : PT X a (tDT X.K mg E τ)) : PT X (.UnaryOp .Not a pos) (tDT X.K mg E (tNo τ)) := pt_imp (pt_not h) fun σ H Q => by
  rintro ⟨H0, ps, F, ρ, S, env, h⟩
  exact ⟨H0, ps, F, ρ, S, env, (Ps.bnd env.st h).imp fun x S1 F1 H1 g1 st1 h1 => h1.ret F1 H1 (Grow.refl g1.fh) st1⟩
theorem w_and {rest : List Expr} (ha : PT X a (tDT X.K mg E τ)) (hb : PW X (.BoolOp .And (b :: rest) pos) (tDT X.K mg E υ)) : PW X (.BoolOp .And (a :: b :: rest) pos) (tDT X.K mg E (tAn τ υ)) := pw_imp (pw_and ha hb) fun σ H Q => by
  rintro ⟨H0, ps, F, ρ, S, env, h⟩
  refine ⟨H0, ps, F, ρ, S, env, (Ps.bnd env.st h).imp fun x S1 F1 H1 g1 st1 h1 => ?_⟩
  cases x with
  | true => exact ⟨H0, ps, F1, ρ, S1, env.grow g1 st1, h1⟩
  | false => exact h1.ret F1 H1 (Grow.refl g1.fh) st1
theorem w_or {rest : List Expr} (ha : PT X a (tDT X.K mg E τ)) (hb : PW X (.BoolOp .Or (b :: rest) pos) (tDT X.K mg E υ)) : PW X (.BoolOp .Or (a :: b :: rest) pos) (tDT X.K mg E (tOr' τ υ)) := pw_imp (pw_or ha hb) fun σ H Q => by
  rintro ⟨H0, ps, F, ρ, S, env, h⟩
  refine ⟨H0, ps, F, ρ, S, env, (Ps.bnd env.st h).imp fun x S1 F1 H1 g1 st1 h1 => ?_⟩
  cases x with
  | false => exact ⟨H0, ps, F1, ρ, S1, env.grow g1 st1, h1⟩
  | true => exact h1.ret F1 H1 (Grow.refl g1.fh) st1
theorem w_and1 (ha : PT X a (tDT X.K mg E τ)) : PW X (.BoolOp .And [a] pos) (tDT X.K mg E τ) := pw_and1 ha
theorem w_or1 (ha : PT X a (tDT X.K mg E τ)) : PW X (.BoolOp .Or [a] pos) (tDT X.K mg E τ) := pw_or1 ha
/-- as values -/
theorem d_one {op} (h : PE X a (tD X.K mg E φ)) : PE X (.BoolOp op [a] pos) (tD X.K mg E φ) := pe_one h
theorem d_and {rest : List Expr} (ha : PE X a (tD X.K mg E φ)) (hb : PE X (.BoolOp .And (b :: rest) pos) (tD X.K mg E ψ)) : PE X (.BoolOp .And (a :: b :: rest) pos) (tD X.K mg E (eAn φ ψ)) := pe_imp (pe_and ha hb) fun σ H Q => by
  rintro ⟨H0, ps, F, ρ, S, env, h⟩
  refine ⟨H0, ps, F, ρ, S, env, (Ps.bnd env.st h).imp fun x S1 F1 H1 g1 st1 h1 v hv => ?_⟩
  split at h1
  · have hv := hv.rp rfl
    cases hv
    exact ⟨true, rfl, H0, ps, F1, ρ, S1, env.grow g1 st1, h1⟩
  · have hv := hv.rp rfl
    cases hv
    exact ⟨false, rfl, h1.ret F1 H1 (Grow.refl g1.fh) st1 _ (.inl (.bl _))⟩
  · exact h1.elim
theorem d_or {rest : List Expr} (ha : PE X a (tD X.K mg E φ)) (hb : PE X (.BoolOp .Or (b :: rest) pos) (tD X.K mg E ψ)) : PE X (.BoolOp .Or (a :: b :: rest) pos) (tD X.K mg E (eOr φ ψ)) := pe_imp (pe_or ha hb) fun σ H Q => by
  rintro ⟨H0, ps, F, ρ, S, env, h⟩
  refine ⟨H0, ps, F, ρ, S, env, (Ps.bnd env.st h).imp fun x S1 F1 H1 g1 st1 h1 v hv => ?_⟩
  split at h1
  · have hv := hv.rp rfl
    cases hv
    exact ⟨true, rfl, h1.ret F1 H1 (Grow.refl g1.fh) st1 _ (.inl (.bl _))⟩
  · have hv := hv.rp rfl
    cases hv
    exact ⟨false, rfl, H0, ps, F1, ρ, S1, env.grow g1 st1, h1⟩
  · exact h1.elim
theorem d_not (h : PE X a (tD X.K mg E φ)) : PE X (.UnaryOp .Not a pos) (tD X.K mg E (eNo φ)) := pe_imp (pe_not h) fun σ H Q => by
  rintro ⟨H0, ps, F, ρ, S, env, h⟩
  refine ⟨H0, ps, F, ρ, S, env, (Ps.bnd env.st h).imp fun x S1 F1 H1 g1 st1 h1 v hv => ?_⟩
  split at h1
  · have hv := hv.rp rfl
    cases hv
    exact ⟨_, rfl, h1.ret F1 H1 (Grow.refl g1.fh) st1 _ (.inl (.bl _))⟩
  · exact h1.elim
theorem d_ifx {χ : DE → M D} (hc : PT X c (tDT X.K mg E τ)) (ha : PE X a (tD X.K mg E φ)) (hb : PE X b (tD X.K mg E ψ)) : PE X (.IfExp c a b pos) (tD X.K mg E (eIf τ φ ψ)) := pe_imp (pe_ifExp hc ha hb) fun σ H Q => by
  rintro ⟨H0, ps, F, ρ, S, env, h⟩
  refine ⟨H0, ps, F, ρ, S, env, (Ps.bnd env.st h).imp fun x S1 F1 H1 g1 st1 h1 => ?_⟩
  cases x with
  | true => exact ⟨H0, ps, F1, ρ, S1, env.grow g1 st1, h1⟩
  | false => exact ⟨H0, ps, F1, ρ, S1, env.grow g1 st1, h1⟩
/-! ### slices, new lists -/
theorem o_none : PO X none (tDO X.K mg E oN) := po_imp po_none fun σ H Q => by
  rintro ⟨H0, ps, F, ρ, S, env, h⟩
  exact h.ret F H (Grow.refl env.fh) env.st
theorem o_some (h : PE X e (tD X.K mg E φ)) : PO X (some e) (tDO X.K mg E (oS φ)) := po_imp (po_some h) fun σ H Q => by
  rintro ⟨H0, ps, F, ρ, S, env, h⟩
  refine ⟨H0, ps, F, ρ, S, env, (Ps.bnd env.st h).imp fun x S1 F1 H1 g1 st1 h1 v hv => ?_⟩
  split at h1
  · have hv := hv.rp rfl
    cases hv
    exact ⟨_, rfl, h1.ret F1 H1 (Grow.refl g1.fh) st1⟩
  · exact h1.elim
theorem d_cut {lo hi : Option Expr} {lo1 hi1 : DE → M (Option Int)} {p2 : Pos} (he : PE X e (tD X.K mg E φ)) (hl : PO X lo (tDO X.K mg E lo1)) (hh : PO X hi (tDO X.K mg E hi1)) : PE X (.Subscript e (.Slice lo hi none p2) pos) (tD X.K mg E (eCut lo1 hi1 φ)) := pe_imp (pe_slice (sl_tupA.or sl_list) he hl hh) fun σ H Q => by
  rintro ⟨H0, ps, F, ρ, S, env, h⟩
  refine ⟨H0, ps, F, ρ, S, env, (Ps.bnd env.st h).imp fun x S1 F1 H1 g1 st1 h1 v hv => ?_⟩
  have env1 := env.grow g1 st1
  refine ⟨H0, ps, F1, ρ, S1, env1, (Ps.bnd st1 h1).imp fun l S2 F2 H2 g2 st2 h2 => ?_⟩
  have env2 := env1.grow g2 st2
  refine ⟨H0, ps, F2, ρ, S2, env2, (Ps.bnd st2 h2).imp fun u S3 F3 H3 g3 st3 h3 => ?_⟩
  obtain ⟨z, ez, k⟩ := h3.opt
  unfold dCut at ez
  split at ez
  · rename_i ws
    cases ez
    have hv := ((hv.mono g2.ff).mono g3.ff).rp rfl
    cases hv with
    | tup q r =>
      rename_i a vs
      refine .inl ⟨a, vs, rfl, ex_t g3.fh q, fun hw => ?_, fun hw p hp => ?_⟩
      · refine k F3 H3 (Grow.refl g3.fh) st3 _ (.inl ?_)
        have e1 : cutD ws l u = ws := by
          unfold cutD
          rw [← r.length, hw.1, hw.2, List.drop_zero, Nat.sub_zero, r.length, List.take_length]
        rw [e1]
        exact .tup q r
      · exact k _ _ (Grow.new g3.fh hp) (st3.new g3.fh hp) _ (.inl (.tup (st_of upd_same) ((r.cut l u).mono (Ex.new (fresh_back g3.fh hp)))))
  · cases ez
    have hv := ((hv.mono g2.ff).mono g3.ff).rp rfl
    cases hv with
    | lst q r => exact .inr ⟨_, _, rfl, sq_of (g3.fh _ _ q), fun p hp => k _ _ (Grow.new g3.fh hp) (st3.new g3.fh hp) _ (.inl (.lst upd_same ((r.cut l u).mono (Ex.new (fresh_back g3.fh hp)))))⟩
  · cases ez
    have hv := ((hv.mono g2.ff).mono g3.ff).rp rfl
    cases hv with
    | scr q r => exact .inr ⟨_, _, rfl, ex_l g3.fh q, fun p hp => k _ _ (Grow.new g3.fh hp) (st3.new g3.fh hp) _ (.inl (.lst upd_same ((r.cut l u).mono (Ex.new (fresh_back g3.fh hp)))))⟩
  · cases ez
def tTys (ns : List String) : TA := fun _ H Q => Q (ns.map V.ty) H
theorem ty_nil : PA X [] (tTys []) := pa_imp pa_nil fun σ H Q h => h
theorem ty_cons {x : Str} {n : String} {ns : List String} {p : Pos} (hg : Gl X x) (hm : X.mg x = none) (hv : bootBuiltins x = some (.type n)) (hr : PA X es (tTys ns)) (hn : x ≠ "__name__" := by decide) (hd : (x == ("__debug__" : Str)) = false := by decide)
    (hs : starEach (.Name x p :: es) X.env = (false, eval (.Name x p) X.env) :: starEach es X.env := by rfl) : PA X (.Name x p :: es) (tTys (n :: ns)) := pa_imp (pa_cons (pe_bltn (v := .ty n) hg hm hv rfl hn hd) hr hs) fun σ H Q h => h
theorem kitAny_tys {K : PySem.W.Frag} {t : String} {tv : Value} (ht : ∀ n ∈ kinds, PySem.W.kitOne K tv (.type n) = some (isT t n)) : ∀ ns : List String, ns.all kinds.contains = true → PySem.W.kitAny K tv (ns.map Value.type) = some (ns.any (isT t))
  | [], _ => kitAny_nil
  | n :: ns, h => by
    rw [List.all_cons, Bool.and_eq_true] at h
    have h1 := ht n (List.contains_iff_mem.mp h.1)
    rw [List.any_cons]
    refine kitAny_cons h1 (fun e => ?_) (fun e => ?_)
    · rw [e, Bool.false_or]; exact kitAny_tys ht ns h.2
    · rw [e, Bool.true_or]
theorem cls_tys : ∀ ns : List String, Paired ClsV (ns.map V.ty) (ns.map Value.type)
  | [] => .nil
  | n :: ns => .cons (.ty n) (cls_tys ns)
theorem d_isis {x : Str} {p p2 : Pos} {ns : List String} {ts : List Expr} {x1} (hg : Gl X x) (hm : X.mg x = none) (hv : bootBuiltins x = some (.builtin "isinstance")) (ha : PE X e (tD X.K mg E φ)) (ht : PA X ts (tTys ns)) (hn : x ≠ "__name__" := by decide) (hdb : (x == ("__debug__" : Str)) = false := by decide)
    (hs1 : starEach [.Tuple ts x1 p2] X.env = (false, eval (.Tuple ts x1 p2) X.env) :: starEach [] X.env := by rfl)
    (he : starEach [e, .Tuple ts x1 p2] X.env = (false, eval e X.env) :: starEach [.Tuple ts x1 p2] X.env := by rfl) (hpl : (backTo pos (starEach [.Tuple ts x1 p2] X.env)).any (·.1) = false := by rfl) :
    PE X (.Call (.Name x p) [e, .Tuple ts x1 p2] [] pos) (tD X.K mg E (eIsi ns φ)) := pe_imp (pe_callB call_isiTD hg hm hv (pa_cons ha (pa_cons (pe_tup ht) pa_nil hs1) he) hn hdb he hpl) fun σ H Q => by
  rintro ⟨H0, ps, F, ρ, S, env, h⟩
  refine ⟨H0, ps, F, ρ, S, env, (Ps.bnd env.st h).imp fun x S1 F1 H1 g1 st1 h1 v hv => ?_⟩
  obtain ⟨z, ez, k⟩ := h1.opt
  unfold dIsis at ez
  split at ez
  · rename_i hk
    rw [Bool.and_eq_true, decide_eq_true_eq] at hk
    cases q : tyName x with
    | none => rw [q] at ez; cases ez
    | some t =>
      rw [q] at ez; cases ez
      have hl : (ns.map V.ty).length ≤ sizeLine := by
        rw [List.length_map]
        exact sz_of (by omega)
      refine ⟨hl, fun p hp => ?_⟩
      have g2 : Grow ps F1 H1 (upd F1 p (.tup (ns.map V.ty))) (upd H1 p (.tup (ns.map V.ty))) := Grow.new g1.fh hp
      have env2 := (env.grow g1 st1).grow g2 (st1.new g1.fh hp)
      obtain ⟨tv, h4, h3⟩ := env2.tyx (hv.mono g2.ff) q
      refine ⟨v, p, ns.map V.ty, tv, ns.map Value.type, _, rfl, upd_same, cls_tys ns, h4, kitAny_tys h3 ns hk.1, k _ _ g2 (st1.new g1.fh hp) _ (.inl (.bl _))⟩
  · cases ez
/-- X(e), an own exception as a value -/
theorem d_exn {C : Addr} {bmB : List Value} {B newId initId : String} {x : Str} {p : Pos} (hF : ExcBaseFacts B newId initId bmB) (q : PySem.W.excIn X.K C bmB newId = true) (gC : X.mg x = some (.ref C)) (gC' : mg x = some (.ref C)) (hX : XcF X.K C) (kC : PySem.W.keepIn X.K (.ref C) = true) (hg : Gl X x)
    (ha : PE X e (tD X.K mg E φ)) (hs : starEach [e] X.env = (false, eval e X.env) :: starEach [] X.env := by rfl) (hdb : (x == ("__debug__" : Str)) = false := by decide) :
    PE X (.Call (.Name x p) [e] [] pos) (tD X.K mg E (eExn x φ)) := pe_imp (pe_exc1 hF q gC kC hg ha hs hdb) fun σ H Q => by
  rintro ⟨H0, ps, F, ρ, S, env, h⟩
  refine ⟨H0, ps, F, ρ, S, env, (Ps.bnd env.st h).imp fun x S1 F1 H1 g1 st1 h1 v hv a ha => ?_⟩
  exact h1.ret _ _ (Grow.new g1.fh ha) (st1.new g1.fh ha) _ (.inl (.exn gC' upd_same hX))
theorem d_exnV {x : Str} {p : Pos} (u : XcU X.K mg x) (hm : X.mg x = mg x) (hg : Gl X x) (ha : PE X e (tD X.K mg E φ)) (hs : starEach [e] X.env = (false, eval e X.env) :: starEach [] X.env := by rfl) (hdb : (x == ("__debug__" : Str)) = false := by decide) :
    PE X (.Call (.Name x p) [e] [] pos) (tD X.K mg E (eExn x φ)) := by
  obtain ⟨C, h1, h2, h3, h4⟩ := u
  exact d_exn PySem.F.excBase_ValueError h2 (hm.trans h1) h1 h4 h3 hg ha hs hdb
theorem l_cut {lo hi : Option Expr} {lo1 hi1 : DE → M (Option Int)} {p2 : Pos} (he : PE X e (tD X.K mg E φ)) (hl : PO X lo (tDO X.K mg E lo1)) (hh : PO X hi (tDO X.K mg E hi1)) : PE X (.Subscript e (.Slice lo hi none p2) pos) (tDL X.K mg E (lCut lo1 hi1 φ)) := pe_imp (pe_slice sl_list he hl hh) fun σ H Q => by
  rintro ⟨H0, ps, F, ρ, S, env, h⟩
  refine ⟨H0, ps, F, ρ, S, env, (Ps.bnd env.st h).imp fun x S1 F1 H1 g1 st1 h1 v hv => ?_⟩
  have env1 := env.grow g1 st1
  refine ⟨H0, ps, F1, ρ, S1, env1, (Ps.bnd st1 h1).imp fun l S2 F2 H2 g2 st2 h2 => ?_⟩
  have env2 := env1.grow g2 st2
  refine ⟨H0, ps, F2, ρ, S2, env2, (Ps.bnd st2 h2).imp fun u S3 F3 H3 g3 st3 h3 => ?_⟩
  have env3 := env2.grow g3 st3
  have hv := (hv.mono g2.ff).mono g3.ff
  split at h3
  · have hv := hv.rp rfl
    cases hv with
    | lst q r => exact ⟨_, _, rfl, sq_of (g3.fh _ _ q), fun p hp => h3.ret F3 H3 (Grow.refl g3.fh) st3 p _ hp (r.cut l u)⟩
  · have hv := hv.rp rfl
    cases hv with
    | scr q r => exact ⟨_, _, rfl, ex_l g3.fh q, fun p hp => h3.ret F3 H3 (Grow.refl g3.fh) st3 p _ hp (r.cut l u)⟩
  · rcases hv with hv | ⟨i, ys, e1, h1', h2'⟩ | ⟨e1, _⟩
    · cases hv
    · cases e1
      obtain ⟨w, h3', h4⟩ := env3.sl i _ h1'
      rw [h2'] at h3'; cases h3'
      rcases h4 with h4 | ⟨zs, e1, m⟩ | ⟨e1, _⟩
      · cases h4
      · cases e1
        obtain ⟨p', vs', rfl, _, m2, m3, _⟩ := m
        exact ⟨_, _, rfl, sq_of m2, fun p hp => h3.ret F3 H3 (Grow.refl g3.fh) st3 p _ hp (m3.cut l u)⟩
      · cases e1
    · cases e1
  · exact h3.elim
/-- list(e) -/
theorem l_of {x : Str} {p : Pos} (hg : Gl X x) (hm : X.mg x = none) (hv : bootBuiltins x = some (.type "list")) (ha : PE X e (tD X.K mg E φ)) (hn : x ≠ "__name__" := by decide) (hdb : (x == ("__debug__" : Str)) = false := by decide)
    (hs : starEach [e] X.env = (false, eval e X.env) :: starEach [] X.env := by rfl) (hpl : (backTo pos (starEach [] X.env)).any (·.1) = false := by rfl) : PE X (.Call (.Name x p) [e] [] pos) (tDL X.K mg E (lOf dList φ)) :=
  pe_imp (pe_callTy call_list_of hg hm hv (pa_cons ha pa_nil hs) hn hdb hs hpl) fun σ H Q => by
  rintro ⟨H0, ps, F, ρ, S, env, h⟩
  refine ⟨H0, ps, F, ρ, S, env, (Ps.bnd env.st h).imp fun x S1 F1 H1 g1 st1 h1 v hv => ?_⟩
  obtain ⟨xs, ez, k⟩ := h1.opt
  obtain ⟨p, vs, rfl, hq, r⟩ := (env.grow g1 st1).items hv ez
  exact ⟨p, vs, rfl, hq, fun l hl => k F1 H1 (Grow.refl g1.fh) st1 l vs hl r⟩
theorem l_rep (ha : PE X a (tD X.K mg E φ)) (hb : PE X b (tD X.K mg E ψ)) : PE X (.BinOp a .Mult b pos) (tDL X.K mg E (lRep φ ψ)) := pe_imp (pe_op op_rep ha hb) fun σ H Q => by
  rintro ⟨H0, ps, F, ρ, S, env, h⟩
  refine ⟨H0, ps, F, ρ, S, env, (Ps.bnd env.st h).imp fun x S1 F1 H1 g1 st1 h1 v hv => ?_⟩
  have env1 := env.grow g1 st1
  refine ⟨H0, ps, F1, ρ, S1, env1, (Ps.bnd st1 h1).imp fun y S2 F2 H2 g2 st2 h2 u hu => ?_⟩
  split at h2
  · split at h2
    · rename_i hc
      have hv := (hv.mono g2.ff).rp rfl
      have hu := hu.rp rfl
      cases hv with
      | lst q r =>
        cases hu
        exact ⟨_, _, _, rfl, rfl, g2.fh _ _ q, by have := hc.2.1; omega, by have := hc.1; omega, by rw [r.length]; exact sz_of hc.2.2, fun p hp => h2.ret F2 H2 (Grow.refl g2.fh) st2 p _ hp (r.flat _)⟩
    · exact h2.elim
  · exact h2.elim
theorem l_cat (ha : PE X a (tD X.K mg E φ)) (hb : PE X b (tD X.K mg E ψ)) : PE X (.BinOp a .Add b pos) (tDL X.K mg E (lCat φ ψ)) := pe_imp (pe_op op_cat ha hb) fun σ H Q => by
  rintro ⟨H0, ps, F, ρ, S, env, h⟩
  refine ⟨H0, ps, F, ρ, S, env, (Ps.bnd env.st h).imp fun x S1 F1 H1 g1 st1 h1 v hv => ?_⟩
  have env1 := env.grow g1 st1
  refine ⟨H0, ps, F1, ρ, S1, env1, (Ps.bnd st1 h1).imp fun y S2 F2 H2 g2 st2 h2 u hu => ?_⟩
  split at h2
  · split at h2
    · rename_i hc
      have hv := (hv.mono g2.ff).rp rfl
      have hu := hu.rp rfl
      cases hv with
      | lst q r =>
        cases hu with
        | lst q2 r2 =>
          exact ⟨_, _, _, _, rfl, rfl, g2.fh _ _ q, g2.fh _ _ q2, by rw [r.length, r2.length]; exact sz_of hc, fun p hp => h2.ret F2 H2 (Grow.refl g2.fh) st2 p _ hp (r.append r2)⟩
    · exact h2.elim
  · exact h2.elim
end

/-! ### what is walked -/
section
variable (K : PySem.W.Frag) (mg : Str → Option Value)
/-- the iteration J yields the items xs: they are kept, or new pairs -/
structure ItR (F0 : Hp) (J : It) (xs : List D) : Prop where
  go : ∀ (F H : Hp) (i : Nat), Ex F0 F → Ex F H → i < xs.length → J.go i H
  stop : ∀ (F H : Hp), Ex F0 F → Ex F H → J.stop xs.length H
  yld : ∀ (F H H' : Hp) (i : Nat) (x : V) (d : D), Ex F0 F → Ex F H → xs[i]? = some d → J.yld i H x H' → ∃ F', ((F' = F ∧ H' = H) ∨ ∃ T o, H T = none ∧ F' = upd F T o ∧ H' = upd H T o) ∧ Rp K mg F' x d
def tDI (E : XK) (φ : DE → M (List D)) : TI := fun σ H R => ∃ H0 ps F ρ S, En K mg H0 ps F H σ ρ S ∧ Ps K mg E ps F H (φ ρ S) fun xs _ F' H' => ∀ J, ItR K mg F' J xs → R J H'
/-- a target's reading; sl: its slots -/
def tDG (sl : List Nat) (γ : D → DE → Option DE) : TG := fun v σ H Q => ∃ H0 ps F ρ S d ρ', En K mg H0 ps F H σ ρ S ∧ Rp K mg F v d ∧ γ d ρ = some ρ' ∧
  ∀ σ', σ'.length = σ.length → (∀ i, i ∉ sl → σ'[i]? = σ[i]?) → En K mg H0 ps F H σ' ρ' S → Q σ' H
end
section
variable {K : PySem.W.Frag} {mg : Str → Option Value} {X : Cx} {E : XK} {tg e a b : Expr} {φ ψ : DE → M D} {pos p : Pos} {F H : Hp}
theorem itR_list {l : Addr} {vs : List V} {xs : List D} (h : SqL K F l vs) (r : Rps K mg F vs xs) : ItR K mg F (Itl K l) xs where
  go F1 H1 i e1 e2 hi := by
    have hi2 : i < vs.length := by rw [r.length]; exact hi
    exact ⟨vs, vs[i], ex_l e2 (ex_l e1 h), List.getElem?_eq_getElem hi2⟩
  stop F1 H1 e1 e2 := ⟨vs, ex_l e2 (ex_l e1 h), by rw [r.length]; exact Nat.le_refl _⟩
  yld F1 H1 H' i x d e1 e2 hd hy := by
    obtain ⟨rfl, hx⟩ := hy
    obtain ⟨v, hv, rv⟩ := r.get hd
    have := hx vs (ex_l e2 (ex_l e1 h))
    rw [hv] at this; cases this
    exact ⟨F1, .inl ⟨rfl, rfl⟩, rv.mono e1⟩
theorem itR_tup {l : Addr} {vs : List V} {xs : List D} (h : SqT K F l vs) (r : Rps K mg F vs xs) : ItR K mg F (Itt K l) xs where
  go F1 H1 i e1 e2 hi := by
    have hi2 : i < vs.length := by rw [r.length]; exact hi
    exact ⟨vs, vs[i], ex_t e2 (ex_t e1 h), List.getElem?_eq_getElem hi2⟩
  stop F1 H1 e1 e2 := ⟨vs, ex_t e2 (ex_t e1 h), by rw [r.length]; exact Nat.le_refl _⟩
  yld F1 H1 H' i x d e1 e2 hd hy := by
    obtain ⟨rfl, hx⟩ := hy
    obtain ⟨v, hv, rv⟩ := r.get hd
    have := hx vs (ex_t e2 (ex_t e1 h))
    rw [hv] at this; cases this
    exact ⟨F1, .inl ⟨rfl, rfl⟩, rv.mono e1⟩
theorem itR_rng {lo hi : Int} : ItR K mg F (Itr lo (hi - lo).toNat) (rngD lo hi) where
  go F1 H1 i _ _ h := by unfold rngD at h; rw [List.length_map, List.length_range] at h; exact h
  stop F1 H1 _ _ := by unfold rngD; rw [List.length_map, List.length_range]; exact Nat.le_refl _
  yld F1 H1 H' i x d _ _ hd hy := by
    obtain ⟨rfl, rfl⟩ := hy
    unfold rngD at hd
    rw [List.getElem?_map] at hd
    cases hr : (List.range (hi - lo).toNat)[i]? with
    | none => rw [hr] at hd; cases hd
    | some j =>
      rw [hr] at hd; cases hd
      have hj : j = i := by
        have := List.getElem?_eq_some_iff.mp hr
        obtain ⟨h1, h2⟩ := this
        rw [List.getElem_range] at h2; exact h2.symm
      subst hj
      exact ⟨F1, .inl ⟨rfl, rfl⟩, .int _⟩
theorem pi_imp {X : Cx} {tg e : Expr} {t t' : TI} (h : PI X tg e t) (k : ∀ σ H Q, t' σ H Q → t σ H Q) : PI X tg e t' := ⟨fun pins s σ H Q I q => h.run pins s σ H Q I (k σ H Q q)⟩
theorem pg_imp {X : Cx} {e : Expr} {t t' : TG} (h : PG X e t) (k : ∀ v σ H Q, t' v σ H Q → t v σ H Q) : PG X e t' := ⟨fun pins s σ H v u Q I r q => h.run pins s σ H v u Q I r (k v σ H Q q)⟩
theorem pi_or {X : Cx} {tg e : Expr} {t t' : TI} (h : PI X tg e t) (h' : PI X tg e t') : PI X tg e (fun σ H R => t σ H R ∨ t' σ H R) := ⟨fun pins s σ H Q I q => q.elim (h.run pins s σ H Q I) (h'.run pins s σ H Q I)⟩
theorem i_seq (h : PE X e (tD X.K mg E φ)) : PI X tg e (tDI X.K mg E (iSq φ)) := pi_imp (pi_or (pi_list h) (pi_tup h)) fun σ H R => by
  rintro ⟨H0, ps, F, ρ, S, env, h⟩
  have h1 := Ps.bnd env.st h
  have L : (∀ xs S1, φ ρ S ≠ .ok (.tup xs) S1) → iList X.K (tD X.K mg E φ) σ H R := fun hx => by
    refine ⟨H0, ps, F, ρ, S, env, ?_⟩
    cases hm : φ ρ S with
    | bad => rw [hm] at h1; exact h1
    | exc c fs S' => rw [hm] at h1; exact h1
    | ok x S1 =>
      rw [hm] at h1
      intro F1 H1 g1 st1 v hv
      have h2 := h1 F1 H1 g1 st1
      cases x <;> first | exact h2.elim | skip
      · have hv := hv.rp rfl
        cases hv with
        | lst q r => exact ⟨_, rfl, ⟨_, sq_of (g1.fh _ _ q)⟩, h2.ret F1 H1 (Grow.refl g1.fh) st1 _ (itR_list (sq_of q) r)⟩
      · exact absurd hm (hx _ _)
      · have hv := hv.rp rfl
        cases hv with
        | scr q r => exact ⟨_, rfl, ⟨_, ex_l g1.fh q⟩, h2.ret F1 H1 (Grow.refl g1.fh) st1 _ (itR_list q r)⟩
  have T : (∀ (x : D) S1, φ ρ S = .ok x S1 → ∃ xs, x = .tup xs) → iTup X.K (tD X.K mg E φ) σ H R := fun hx => by
    refine ⟨H0, ps, F, ρ, S, env, ?_⟩
    cases hm : φ ρ S with
    | bad => rw [hm] at h1; exact h1
    | exc c fs S' => rw [hm] at h1; exact h1
    | ok x S1 =>
      rw [hm] at h1
      intro F1 H1 g1 st1 v hv
      have h2 := h1 F1 H1 g1 st1
      obtain ⟨xs, rfl⟩ := hx x S1 hm
      have hv := hv.rp rfl
      cases hv with
      | tup q r => exact ⟨_, rfl, ⟨_, ex_t g1.fh q⟩, h2.ret F1 H1 (Grow.refl g1.fh) st1 _ (itR_tup q r)⟩
  by_cases hx : ∃ xs S1, φ ρ S = .ok (.tup xs) S1
  · obtain ⟨xs, S1, hx⟩ := hx
    exact .inr (T fun x S2 e => by rw [hx] at e; cases e; exact ⟨_, rfl⟩)
  · exact .inl (L fun xs S1 e => hx ⟨xs, S1, e⟩)
theorem i_r1 (hg : Gl X "range") (hm : X.mg "range" = none) (ha : PE X a (tD X.K mg E φ)) (hs : starEach [a] X.env = [(false, eval a X.env)] := by rfl) : PI X tg (.Call (.Name "range" p) [a] [] pos) (tDI X.K mg E (iR1 φ)) := pi_imp (pi_range1 hg hm (pa_cons ha pa_nil hs) hs) fun σ H R => by
  rintro ⟨H0, ps, F, ρ, S, env, h⟩
  refine ⟨H0, ps, F, ρ, S, env, (Ps.bnd env.st h).imp fun x S1 F1 H1 g1 st1 h1 v hv => ?_⟩
  split at h1
  · split at h1
    · rename_i n hc
      have hv := hv.rp rfl
      cases hv
      unfold smallI at hc
      rw [Bool.and_eq_true, decide_eq_true_eq, decide_eq_true_eq] at hc
      refine ⟨n, rfl, by omega, by omega, h1.ret F1 H1 (Grow.refl g1.fh) st1 _ ?_⟩
      have e := itR_rng (K := X.K) (mg := mg) (F := F1) (lo := 0) (hi := n)
      rw [Int.sub_zero] at e; exact e
    · exact h1.elim
  · exact h1.elim
theorem i_r2 (hg : Gl X "range") (hm : X.mg "range" = none) (ha : PE X a (tD X.K mg E φ)) (hb : PE X b (tD X.K mg E ψ)) (hs : starEach [a, b] X.env = [(false, eval a X.env), (false, eval b X.env)] := by rfl) (hs2 : starEach [b] X.env = [(false, eval b X.env)] := by rfl) : PI X tg (.Call (.Name "range" p) [a, b] [] pos) (tDI X.K mg E (iR2 φ ψ)) := pi_imp (pi_range2 hg hm (pa_cons ha (pa_cons hb pa_nil hs2) (by rw [hs, hs2])) hs hs2) fun σ H R => by
  rintro ⟨H0, ps, F, ρ, S, env, h⟩
  refine ⟨H0, ps, F, ρ, S, env, (Ps.bnd env.st h).imp fun x S1 F1 H1 g1 st1 h1 v hv => ?_⟩
  refine ⟨H0, ps, F1, ρ, S1, env.grow g1 st1, (Ps.bnd st1 h1).imp fun y S2 F2 H2 g2 st2 h2 u hu => ?_⟩
  split at h2
  · split at h2
    · rename_i m n hc
      have hv := hv.rp rfl
      have hu := hu.rp rfl
      cases hv; cases hu
      unfold smallI at hc
      simp only [Bool.and_eq_true, decide_eq_true_eq] at hc
      exact ⟨m, n, rfl, ⟨by omega, by omega, by omega, by omega⟩, h2.ret F2 H2 (Grow.refl g2.fh) st2 _ itR_rng⟩
    · exact h2.elim
  · exact h2.elim
/-! ### targets -/
theorem En.set {H0 : Hp} {ps : Option Addr} {σ : L2.St} {ρ : DE} {S : List D} {v : V} {d : D} (env : En K mg H0 ps F H σ ρ S) (r : Rp K mg F v d) (i : Nat) : En K mg H0 ps F H (σ.set i (some v)) (ρ.set i (some d)) S where
  fh := env.fh
  st := env.st
  len := by rw [List.length_set, List.length_set]; exact env.len
  sl j e h := by
    by_cases z : i = j
    · subst z
      have hl : i < ρ.length := by
        have := (List.getElem?_eq_some_iff.mp h).1
        rw [List.length_set] at this; exact this
      rw [List.getElem?_set_self hl] at h; cases h
      exact ⟨v, List.getElem?_set_self (by rw [env.len]; exact hl), .inl r⟩
    · rw [List.getElem?_set_ne z] at h
      obtain ⟨w, h1, h2⟩ := env.sl j e h
      exact ⟨w, by rw [List.getElem?_set_ne z]; exact h1, h2⟩
  mne j k xs ys w hjk h1 h2 h3 := by
    have hd := r.dat
    have nj : i ≠ j := fun z => by
      subst z
      have hl : i < ρ.length := by
        have := (List.getElem?_eq_some_iff.mp h1).1
        rw [List.length_set] at this; exact this
      rw [List.getElem?_set_self hl] at h1; cases h1; cases hd
    have nk : i ≠ k := fun z => by
      subst z
      have hl : i < ρ.length := by
        have := (List.getElem?_eq_some_iff.mp h3).1
        rw [List.length_set] at this; exact this
      rw [List.getElem?_set_self hl] at h3; cases h3; cases hd
    rw [List.getElem?_set_ne nj] at h1 h2
    rw [List.getElem?_set_ne nk] at h3 ⊢
    exact env.mne j k xs ys w hjk h1 h2 h3
theorem g_name {i : Nat} {x : Str} (hN : X.N.Nodup) (hi : X.N[i]? = some x) (hx : Loc X.env.scope x) (hf : X.fn x = true ∨ X.env.scope.names.lookup x = some .local := by first | exact .inl rfl | exact .inr rfl | assumption) : PG X (.Name x pos) (tDG X.K mg [i] (gN i)) := pg_imp (pg_name hN hi hx hf) fun v σ H Q => by
  rintro ⟨H0, ps, F, ρ, S, d, ρ', env, r, e, k⟩
  unfold gN at e
  split at e
  · cases e
    refine k _ (by rw [List.length_set]) (fun j hj => ?_) (env.set r i)
    rw [List.getElem?_set_ne (fun z => hj (by rw [z]; exact List.mem_singleton.mpr rfl))]
  · cases e
def tDGs (K : PySem.W.Frag) (mg : Str → Option Value) (sl : List Nat) : TGs := fun vs σ H Q => ∃ H0 ps F ρ S ds ρ', En K mg H0 ps F H σ ρ S ∧ Rps K mg F vs ds ∧ setAll sl ds ρ = some ρ' ∧
  ∀ σ', σ'.length = σ.length → (∀ i, i ∉ sl → σ'[i]? = σ[i]?) → En K mg H0 ps F H σ' ρ' S → Q σ' H
theorem pgs_imp {X : Cx} {e : List Expr} {t t' : TGs} (h : PGs X e t) (k : ∀ v σ H Q, t' v σ H Q → t v σ H Q) : PGs X e t' := ⟨fun pins s σ H v u Q I r q => h.run pins s σ H v u Q I r (k v σ H Q q)⟩
theorem g_nil : PGs X [] (tDGs X.K mg []) := pgs_imp pgs_nil fun vs σ H Q => by
  rintro ⟨H0, ps, F, ρ, S, ds, ρ', env, r, e, k⟩
  cases r with
  | nil => cases e; exact ⟨rfl, k σ rfl (fun _ _ => rfl) env⟩
  | cons _ _ => cases e
theorem g_cons {i : Nat} {x : Str} {ts : List Expr} {sl : List Nat} (hN : X.N.Nodup) (hi : X.N[i]? = some x) (hx : Loc X.env.scope x) (hr : PGs X ts (tDGs X.K mg sl))
    (hs : (assignEach (.Name x pos :: ts) X.env).map (·.2) = assign (.Name x pos) X.env :: (assignEach ts X.env).map (·.2) := by rfl) (hf : X.fn x = true ∨ X.env.scope.names.lookup x = some .local := by first | exact .inl rfl | exact .inr rfl | assumption) : PGs X (.Name x pos :: ts) (tDGs X.K mg (i :: sl)) := pgs_imp (pgs_cons (pg_name hN hi hx hf) hr hs) fun vs σ H Q => by
  rintro ⟨H0, ps, F, ρ, S, ds, ρ', env, r, e, k⟩
  cases r with
  | nil => cases e
  | @cons v vs d ds rv r =>
    unfold setAll at e
    split at e
    · refine ⟨v, vs, rfl, H0, ps, F, _, S, ds, ρ', env.set rv i, r, e, fun σ' hl hk env' => k σ' (by rw [hl, List.length_set]) (fun j hj => ?_) env'⟩
      rw [hk j (fun z => hj (List.mem_cons_of_mem _ z)), List.getElem?_set_ne (fun z => hj (by rw [z]; exact List.mem_cons_self))]
    · cases e
theorem pg_or {X : Cx} {e : Expr} {t t' : TG} (h : PG X e t) (h' : PG X e t') : PG X e (fun v σ H Q => t v σ H Q ∨ t' v σ H Q) := ⟨fun pins s σ H v u Q I r q => q.elim (h.run pins s σ H v u Q I r) (h'.run pins s σ H v u Q I r)⟩
theorem setAll_len : ∀ (is : List Nat) (es : List D) (ρ ρ' : DE), setAll is es ρ = some ρ' → es.length = is.length := by
  intro is
  induction is with
  | nil => intro es ρ ρ' h; cases es with
    | nil => rfl
    | cons _ _ => cases h
  | cons i is ih => intro es ρ ρ' h; cases es with
    | nil => cases h
    | cons y ys =>
      unfold setAll at h
      split at h
      · rw [List.length_cons, List.length_cons, ih _ _ _ h]
      · cases h
theorem g_tup {es : List Expr} {k : Nat} {sl : List Nat} (hc : X.calm = true) (h : PGs X es (tDGs X.K mg sl)) (hn : (assignEach es X.env).length = sl.length := by rfl) (hst : (assignEach es X.env).findIdx? (·.1) = none := by rfl) : PG X (.Tuple es k pos) (tDG X.K mg sl (gT sl)) := pg_imp (pg_or (pg_tup hc h hn hst) (pg_lst hc h hn hst)) fun v σ H Q => by
  rintro ⟨H0, ps, F, ρ, S, d, ρ', env, r, e, k⟩
  unfold gT at e
  split at e
  · rename_i ds
    cases r with
    | tup q r => exact .inl ⟨_, _, rfl, ex_t env.fh q, by rw [r.length, setAll_len _ _ _ _ e], H0, ps, F, ρ, S, ds, ρ', env, r, e, k⟩
  · rename_i ds
    cases r with
    | lst q r => exact .inr ⟨_, _, rfl, sq_of (env.fh _ _ q), by rw [r.length, setAll_len _ _ _ _ e], H0, ps, F, ρ, S, ds, ρ', env, r, e, k⟩
  · cases e
end
end DL

namespace DL
open PySem PySem.Spec PyProof.Rows L2 Evl
/-! ### comprehensions -/
theorem wipe_get (σ : L2.St) (i : Nat) : ∀ vs : List Nat, (wipe σ vs)[i]? = if i ∈ vs ∧ i < σ.length then some none else σ[i]?
  | [] => by simp [wipe]
  | v :: vs => by
    unfold wipe
    by_cases z : v = i
    · subst z
      by_cases hl : v < σ.length
      · rw [List.getElem?_set_self (by rw [wipe_length]; exact hl), if_pos ⟨List.mem_cons_self, hl⟩]
      · rw [List.getElem?_eq_none (by rw [List.length_set, wipe_length]; omega), if_neg (fun q => hl q.2), List.getElem?_eq_none (by omega)]
    · rw [List.getElem?_set_ne z, wipe_get σ i vs]
      by_cases hm : i ∈ vs
      · by_cases hl : i < σ.length
        · rw [if_pos ⟨hm, hl⟩, if_pos ⟨List.mem_cons_of_mem _ hm, hl⟩]
        · rw [if_neg (fun q => hl q.2), if_neg (fun q => hl q.2)]
      · rw [if_neg (fun q => hm q.1), if_neg (fun q => by
          rcases List.mem_cons.mp q.1 with e | e
          · exact z e.symm
          · exact hm e)]
theorem wipeD_get (ρ : DE) (i : Nat) : ∀ vs : List Nat, (wipeD ρ vs)[i]? = if i ∈ vs ∧ i < ρ.length then some none else ρ[i]?
  | [] => by simp [wipeD]
  | v :: vs => by
    have wl : ∀ vs : List Nat, (wipeD ρ vs).length = ρ.length := fun vs => by
      induction vs with
      | nil => rfl
      | cons v vs ih => unfold wipeD; rw [List.length_set, ih]
    unfold wipeD
    by_cases z : v = i
    · subst z
      by_cases hl : v < ρ.length
      · rw [List.getElem?_set_self (by rw [wl]; exact hl), if_pos ⟨List.mem_cons_self, hl⟩]
      · rw [List.getElem?_eq_none (by rw [List.length_set, wl]; omega), if_neg (fun q => hl q.2), List.getElem?_eq_none (by omega)]
    · rw [List.getElem?_set_ne z, wipeD_get ρ i vs]
      by_cases hm : i ∈ vs
      · by_cases hl : i < ρ.length
        · rw [if_pos ⟨hm, hl⟩, if_pos ⟨List.mem_cons_of_mem _ hm, hl⟩]
        · rw [if_neg (fun q => hl q.2), if_neg (fun q => hl q.2)]
      · rw [if_neg (fun q => hm q.1), if_neg (fun q => by
          rcases List.mem_cons.mp q.1 with e | e
          · exact z e.symm
          · exact hm e)]
theorem wipeD_length (ρ : DE) (vs : List Nat) : (wipeD ρ vs).length = ρ.length := by
  induction vs with
  | nil => rfl
  | cons v vs ih => unfold wipeD; rw [List.length_set, ih]
theorem wipe_same {σ σ' : L2.St} {sl vs : List Nat} (hl : σ'.length = (wipe σ vs).length) (hk : ∀ i, i ∉ sl → σ'[i]? = (wipe σ vs)[i]?) (hs : ∀ i ∈ sl, i ∈ vs) : wipe σ' vs = wipe σ vs := by
  apply List.ext_getElem?
  intro i
  rw [wipe_length] at hl
  rw [wipe_get, wipe_get]
  by_cases hm : i ∈ vs
  · rw [hl]
    by_cases hi : i < σ.length
    · rw [if_pos ⟨hm, hi⟩, if_pos ⟨hm, hi⟩]
    · rw [if_neg (fun q => hi q.2), if_neg (fun q => hi q.2), List.getElem?_eq_none (by omega), List.getElem?_eq_none (by omega)]
  · rw [if_neg (fun q => hm q.1), if_neg (fun q => hm q.1), hk i (fun z => hm (hs i z)), wipe_get, if_neg (fun q => hm q.1)]
section
variable {K : PySem.W.Frag} {mg : Str → Option Value} {H0 : Hp} {ps : Option Addr} {F H F1 H1 : Hp} {σ : L2.St} {ρ : DE} {S : List D}
theorem En.wipe (env : En K mg H0 ps F H σ ρ S) (vs : List Nat) : En K mg H0 ps F H (wipe σ vs) (wipeD ρ vs) S where
  fh := env.fh
  st := env.st
  len := by rw [wipe_length, wipeD_length]; exact env.len
  sl i d h := by
    rw [wipeD_get] at h
    split at h
    · cases h
    · rename_i hn
      obtain ⟨v, h1, h2⟩ := env.sl i d h
      exact ⟨v, by rw [wipe_get, env.len, if_neg hn]; exact h1, h2⟩
  mne i j xs ys v hij h1 h2 h3 := by
    rw [wipeD_get] at h1 h3
    rw [wipe_get, env.len] at h2 ⊢
    split at h1
    · cases h1
    · rename_i hn
      rw [if_neg hn] at h2
      split at h3
      · cases h3
      · rename_i hm
        rw [if_neg hm]
        exact env.mne i j xs ys v hij h1 h2 h3
/-- an own list beside -/
def delH' (H : Hp) (a : Addr) : Hp := fun b => if b = a then none else H b
theorem upd_delH' {H : Hp} {a : Addr} {u : HO} : upd (delH' H a) a u = upd H a u := by
  funext b; unfold upd delH'; split <;> rfl
theorem delH'_same {H : Hp} {a : Addr} : delH' H a a = none := by unfold delH'; rw [if_pos rfl]
theorem delH'_ne {H : Hp} {a b : Addr} (h : b ≠ a) : delH' H a b = H b := by unfold delH'; rw [if_neg h]
theorem En.beside {p : Addr} {o : HO} (env : En K mg H0 ps F H σ ρ S) (hp : H p = none) : En K mg H0 ps F (upd H p o) σ ρ S where
  fh a u q := by
    have z : a ≠ p := ne_of_none (env.fh a u q) hp
    rw [upd_ne z]; exact env.fh a u q
  st := ⟨fun q hq => by
    obtain ⟨h1, vs, h2, h3⟩ := env.st.1 q hq
    exact ⟨h1, vs, by rw [upd_ne (ne_of_none h2 hp)]; exact h2, h3⟩, env.st.2⟩
  len := env.len
  sl i d h := by
    obtain ⟨v, h1, h2⟩ := env.sl i d h
    refine ⟨v, h1, ?_⟩
    rcases h2 with h2 | ⟨xs, e, q, vs, e2, m1, m2, m3, m4, m5⟩ | h2
    · exact .inl h2
    · exact .inr (.inl ⟨xs, e, q, vs, e2, m1, by rw [upd_ne (ne_of_none m2 hp)]; exact m2, m3, m4, m5⟩)
    · exact .inr (.inr h2)
  mne := env.mne
/-- what happens beside an own list happens without it -/
theorem Ps.beside {α : Type} {E E' : XK} {m : M α} {p : Addr} {o : HO} {P : α → List D → Hp → Hp → Prop} (e : Ex F H) (st : StR K mg ps F H S) (hp : H p = none) (h : Ps K mg E ps F H (nox m S) P) :
    Ps K mg E' ps F (upd H p o) (m S) fun a S' F' H' => P a S' F' (delH' H' p) ∧ H' p = some o ∧ Grow ps F H F' (delH' H' p) ∧ StR K mg ps F' (delH' H' p) S' := by
  unfold nox at h
  cases hm : m S with
  | bad => rw [hm] at h; exact h.elim
  | exc c fs S' => rw [hm] at h; exact h.elim
  | ok a S' =>
    rw [hm] at h
    intro F' H' g st'
    have fp : F p = none := fresh_back e hp
    have hps : some p ≠ ps := fun z => by
      obtain ⟨_, vs, q, _⟩ := st.1 p z.symm
      rw [hp] at q; cases q
    have h1 : H' p = some o := g.hh p o upd_same hps
    have f1 : F' p = none := by rw [g.fr p (by rw [upd_same]; intro q; cases q)]; exact fp
    have g' : Grow ps F H F' (delH' H' p) := by
      refine ⟨g.ff, fun a u q => ?_, fun a q => ?_, fun a u q n => ?_⟩
      · have z : a ≠ p := ne_of_none q f1
        rw [delH'_ne z]; exact g.fh a u q
      · refine g.fr a ?_
        by_cases z : a = p
        · subst z; exact absurd hp q
        · rw [upd_ne z]; exact q
      · have z : a ≠ p := ne_of_none q hp
        rw [delH'_ne z]
        exact g.hh a u (by rw [upd_ne z]; exact q) n
    have s' : StR K mg ps F' (delH' H' p) S' := ⟨fun q hq => by
      obtain ⟨h2, vs, h3, h4⟩ := st'.1 q hq
      have z : q ≠ p := fun z => hps (by rw [← z]; exact hq.symm)
      exact ⟨h2, vs, by rw [delH'_ne z]; exact h3, h4⟩, st'.2⟩
    exact ⟨h _ _ g' s', h1, g', s'⟩
end
section
variable {X : Cx} {mg : Str → Option Value} {E : XK}
/-- a comprehension's reading -/
theorem go_lc {it : DE → M (List D)} {sl : List Nat} {γ : D → DE → Option DE} {τ : DE → M Bool} {φ : DE → M D} {vs : List Nat} {K : PySem.W.Frag} (hsl : ∀ i ∈ sl, i ∈ vs) : ∀ σ H Q, tDL K mg E (lLc it γ τ φ vs) σ H Q →
    tLc (tDI K mg E it) (tDG K mg sl γ) (tDT K mg (fun _ _ _ => False) τ) (tD K mg (fun _ _ _ => False) φ) vs σ H Q := by
  rintro σ H Q ⟨H0, ps, F, ρ, S, env, h⟩
  refine ⟨H0, ps, F, ρ, S, env, (Ps.bnd env.st h).imp fun xs S1 F1 H1 g1 st1 h1 J hJ Dl hD => ?_⟩
  have env1 := env.grow g1 st1
  split at h1
  · rename_i hlen
    -- the state behind i turns
    refine ⟨fun i m H2 => m + i = xs.length ∧ ∃ F2 S2 Hd acc done, H2 = upd Hd Dl (.lst acc) ∧ Hd Dl = none ∧ Grow ps F1 H1 F2 Hd ∧ StR K mg ps F2 Hd S2 ∧ acc.length ≤ i ∧ Rps K mg F2 acc done ∧
      Ps K mg E ps F2 Hd (bnd (lcD γ τ φ (wipeD ρ vs) (xs.drop i)) (fun ys => ret (done ++ ys)) S2) fun ds _ F' H' => ∀ p vs, H' p = none → Rps K mg F' vs ds → Q (.ref p) (upd H' p (.lst vs)), ?_, ?_⟩
    · refine ⟨xs.length, by omega, F1, S1, H1, [], [], rfl, hD, Grow.refl g1.fh, st1, Nat.le_refl _, .nil, ?_⟩
      rw [List.drop_zero]
      have e : (bnd (lcD γ τ φ (wipeD ρ vs) xs) fun ys => ret ([] ++ ys)) = lcD γ τ φ (wipeD ρ vs) xs := by
        funext S
        unfold DL.bnd
        cases lcD γ τ φ (wipeD ρ vs) xs S <;> rfl
      rw [e]; exact h1
    · rintro i m H2 ⟨hm, F2, S2, Hd, acc, done, rfl, hd, g2, st2, hacc, hr, h2⟩
      have env2 : En K mg H0 ps F2 Hd σ ρ S2 := env1.grow g2 st2
      have envb : En K mg H0 ps F2 (upd Hd Dl (.lst acc)) σ ρ S2 := env2.beside hd
      by_cases hi : i < xs.length
      · right
        refine ⟨hJ.go F2 _ i g2.ff envb.fh hi, fun H' => ∃ m', m' < m ∧ (m' + (i + 1) = xs.length ∧ ∃ F2 S2 Hd acc done, H' = upd Hd Dl (.lst acc) ∧ Hd Dl = none ∧ Grow ps F1 H1 F2 Hd ∧ StR K mg ps F2 Hd S2 ∧ acc.length ≤ i + 1 ∧ Rps K mg F2 acc done ∧
          Ps K mg E ps F2 Hd (bnd (lcD γ τ φ (wipeD ρ vs) (xs.drop (i + 1))) (fun ys => ret (done ++ ys)) S2) fun ds _ F' H' => ∀ p vs, H' p = none → Rps K mg F' vs ds → Q (.ref p) (upd H' p (.lst vs))), fun H' w => w, ?_⟩
        intro x H' hy
        obtain ⟨F3, hst, rx⟩ := hJ.yld F2 _ H' i x xs[i] g2.ff envb.fh (List.getElem?_eq_getElem hi) hy
        -- the world behind the yield, without the own list
        obtain ⟨Hd3, rfl, hd3, g3, st3, ff3⟩ : ∃ Hd3, H' = upd Hd3 Dl (.lst acc) ∧ Hd3 Dl = none ∧ Grow ps F1 H1 F3 Hd3 ∧ StR K mg ps F3 Hd3 S2 ∧ (Grow ps F2 Hd F3 Hd3) := by
          rcases hst with ⟨rfl, rfl⟩ | ⟨T, o, hT, rfl, rfl⟩
          · exact ⟨Hd, rfl, hd, g2, st2, Grow.refl g2.fh⟩
          · have nT : T ≠ Dl := fun z => by rw [z, upd_same] at hT; cases hT
            have hT2 : Hd T = none := by rw [upd_ne nT] at hT; exact hT
            have s3 := st2.new (o := o) g2.fh hT2
            refine ⟨upd Hd T o, ?_, by rw [upd_ne nT.symm]; exact hd, Grow.trans st1 g2 st2 (Grow.new g2.fh hT2), s3, Grow.new g2.fh hT2⟩
            funext b
            unfold upd
            by_cases z1 : b = T
            · rw [if_pos z1, if_neg (fun z => nT (z1.symm.trans z)), if_pos z1]
            · rw [if_neg z1]
              by_cases z2 : b = Dl
              · rw [if_pos z2, if_pos z2]
              · rw [if_neg z2, if_neg z2, if_neg z1]
        have env3 : En K mg H0 ps F3 Hd3 σ ρ S2 := env1.grow g3 st3
        have env3b : En K mg H0 ps F3 (upd Hd3 Dl (.lst acc)) σ ρ S2 := env3.beside hd3
        have ed : xs.drop i = xs[i] :: xs.drop (i + 1) := List.drop_eq_getElem_cons hi
        have h2 : Ps K mg E ps F3 Hd3 (bnd (lcD γ τ φ (wipeD ρ vs) (xs.drop i)) (fun ys => ret (done ++ ys)) S2) fun ds _ F' H' => ∀ p vs, H' p = none → Rps K mg F' vs ds → Q (.ref p) (upd H' p (.lst vs)) := by
          cases hb : (bnd (lcD γ τ φ (wipeD ρ vs) (xs.drop i)) (fun ys => ret (done ++ ys)) S2) with
          | bad => rw [hb] at h2; exact h2
          | ok ds S' => rw [hb] at h2; exact fun F' H' g st => h2 F' H' (Grow.trans st2 ff3 st3 g) st
          | exc c fs S' => rw [hb] at h2; exact fun cls dx F' H' g st => h2 cls dx F' H' (Grow.trans st2 ff3 st3 g) st
        rw [ed] at h2
        unfold lcD at h2
        rw [bnd_assoc] at h2
        obtain ⟨ρ1, e1, h3⟩ := (Ps.bnd st3 h2).opt
        have h3 := h3 F3 Hd3 (Grow.refl g3.fh) st3
        refine ⟨H0, ps, F3, wipeD ρ vs, S2, xs[i], ρ1, env3b.wipe vs, rx, e1, fun σ2 hl hk env4 => ⟨wipe_same hl hk hsl, ?_⟩⟩
        rw [bnd_assoc] at h3
        refine ⟨H0, ps, F3, ρ1, S2, env4, (Ps.beside g3.fh st3 hd3 (Ps.bnd st3 h3)).imp fun b S4 F4 H4 g4 st4 ⟨h4, q4, gd4, sd4⟩ => ?_⟩
        have hd4 : (delH' H4 Dl) Dl = none := delH'_same
        have e4 : H4 = upd (delH' H4 Dl) Dl (.lst acc) := by
          funext b; unfold upd delH'
          by_cases z : b = Dl
          · rw [if_pos z, z]; exact q4
          · rw [if_neg z, if_neg z]
        have env5 : En K mg H0 ps F4 H4 σ2 ρ1 S4 := env4.grow g4 st4
        cases b with
        | false =>
          dsimp only at h4 ⊢
          rw [if_neg (by decide)] at h4 ⊢
          exact ⟨m - 1, by omega, by omega, F4, S4, delH' H4 Dl, acc, done, e4, hd4, Grow.trans st1 g3 st3 gd4, sd4, by omega, hr.mono (ff3.ff.trans gd4.ff), h4⟩
        | true =>
          dsimp only at h4 ⊢
          rw [if_pos rfl] at h4 ⊢
          rw [bnd_assoc] at h4
          have hb := Ps.beside (E' := fun _ _ _ => False) (o := .lst acc) gd4.fh sd4 hd4 (Ps.bnd sd4 h4)
          rw [← e4] at hb
          refine ⟨H0, ps, F4, ρ1, S4, env5, hb.imp fun y S5 F5 H5 g5 st5 ⟨h5, q5, gd5, sd5⟩ v hv => ?_⟩
          split at h5
          · rename_i hdy
            have rv := hv.rp hdy
            rw [bnd_assoc] at h5
            refine ⟨acc, q5, sz_lt (by omega), m - 1, by omega, by omega, F5, S5, delH' H5 Dl, acc ++ [v], done ++ [y], upd_delH'.symm, delH'_same, Grow.trans st1 (Grow.trans st1 g3 st3 gd4) sd4 gd5, sd5, by rw [List.length_append]; simp; omega,
              (hr.mono ((ff3.ff.trans gd4.ff).trans gd5.ff)).append (.cons rv .nil), ?_⟩
            have e : (bnd (lcD γ τ φ (wipeD ρ vs) (xs.drop (i + 1))) fun ys => ret (done ++ [y] ++ ys)) = (bnd (lcD γ τ φ (wipeD ρ vs) (xs.drop (i + 1))) fun ys => bnd (ret (y :: ys)) fun ys => ret (done ++ ys)) := by
              congr; funext ys; rw [bnd_ret, List.append_assoc]; rfl
            rw [e]; exact h5
          · exact h5.elim
      · left
        have hi : i = xs.length := by omega
        subst hi
        rw [List.drop_length] at h2
        unfold lcD at h2
        rw [bnd_ret, List.append_nil] at h2
        exact ⟨hJ.stop F2 _ g2.ff envb.fh, h2.ret F2 Hd (Grow.refl g2.fh) st2 Dl acc hd hr⟩
  · exact h1.elim
theorem l_lc {elt tg iter : Expr} {ifs : List Expr} {scope : Scope} {own : List (Str × Nat)} {pos : Pos} {it : DE → M (List D)} {sl : List Nat} {γ : D → DE → Option DE} {τ : DE → M Bool} {φ : DE → M D} (hc : X.calm = true) (hN : X.N.Nodup) (hi : PI X tg iter (tDI X.K mg E it)) (ok : BlkOk X.N X.env.scope scope own) (hsl : ∀ i ∈ sl, i ∈ own.map (·.2))
    (hg : ∀ (s : Shared) (H : Hp) (C : Addr) (cl : List (Str × Addr)) (fp : List Addr), PG (X.blk s H scope (compEnvC scope cl C X.env) fp) tg (tDG X.K mg sl γ)) (ht : ∀ (s : Shared) (H : Hp) (C : Addr) (cl : List (Str × Addr)) (fp : List Addr), PTs (X.blk s H scope (compEnvC scope cl C X.env) fp) ifs (tDT X.K mg (fun _ _ _ => False) τ))
    (he : ∀ (s : Shared) (H : Hp) (C : Addr) (cl : List (Str × Addr)) (fp : List Addr), PE (X.blk s H scope (compEnvC scope cl C X.env) fp) elt (tD X.K mg (fun _ _ _ => False) φ)) (hs : ∀ x, foldedSetIterable iter X.env x = pure x := by intro _; rfl) :
    PE X (.ListComp elt [⟨tg, iter, ifs, 0⟩] scope pos) (tDL X.K mg E (lLc it γ τ φ (own.map (·.2)))) := pe_imp (pe_lc hc hN hi ok hg ht he hs) (go_lc hsl)
theorem ts_nil : PTs X [] (tDT X.K mg E tY) := ⟨fun pins s σ H Q I h => pts_nil.run pins s σ H Q I (by
  obtain ⟨H0, ps, F, ρ, S, env, h⟩ := h
  exact h.ret F H (Grow.refl env.fh) env.st)⟩
theorem ts_one {c : Expr} {τ : DE → M Bool} (h : PT X c (tDT X.K mg E τ)) : PTs X [c] (tDT X.K mg E τ) := pts_one h
end

/-! ### statements -/
structure Base (F0 H0 : Hp) (ps0 ps : Option Addr) (F H : Hp) : Prop where
  ff : Ex F0 F
  fr : ∀ a, H0 a ≠ none → F a = F0 a
  hh : ∀ a o, H0 a = some o → some a ≠ ps0 → H a = some o
  psn : ps = ps0 ∨ (ps0 = none ∧ ∀ p, ps = some p → H0 p = none)
section
variable {K : PySem.W.Frag} {mg : Str → Option Value} {F0 H0 : Hp} {ps0 ps : Option Addr} {F H F1 H1 : Hp} {S S1 : List D}
theorem Base.refl (e : Ex F H) : Base F H ps ps F H := ⟨Ex.refl F, fun _ _ => rfl, fun _ _ h _ => h, .inl rfl⟩
theorem Base.kept (b : Base F0 H0 ps0 ps F H) (st : StR K mg ps F H S) {a : Addr} (h : H0 a ≠ none) : H a ≠ none := by
  by_cases z : some a = ps0
  · rcases b.psn with e | ⟨e, _⟩
    · obtain ⟨_, vs, q, _⟩ := st.1 a (by rw [e]; exact z.symm)
      rw [q]; intro q; cases q
    · rw [e] at z; cases z
  · cases q : H0 a with
    | none => exact absurd q h
    | some o => rw [b.hh a o q z]; intro q; cases q
theorem Base.fresh (b : Base F0 H0 ps0 ps F H) (st : StR K mg ps F H S) {a : Addr} (h : H a = none) : H0 a = none := by
  cases q : H0 a with
  | none => rfl
  | some o => exact absurd h (b.kept st (by rw [q]; intro q; cases q))
theorem Base.grow (b : Base F0 H0 ps0 ps F H) (st : StR K mg ps F H S) (g : Grow ps F H F1 H1) : Base F0 H0 ps0 ps F1 H1 := by
  refine ⟨b.ff.trans g.ff, fun a h => ?_, fun a o h n => ?_, b.psn⟩
  · rw [g.fr a (b.kept st h), b.fr a h]
  · refine g.hh a o (b.hh a o h n) ?_
    rcases b.psn with e | ⟨_, e⟩
    · rw [e]; exact n
    · intro z; rw [e a z.symm] at h; cases h
theorem Base.trans (b : Base F0 H0 ps0 ps F H) {ps1 : Option Addr} {F2 H2 : Hp} (c : Base F H0 ps0 ps1 F2 H2) : Base F0 H0 ps0 ps1 F2 H2 :=
  ⟨b.ff.trans c.ff, fun a h => by rw [c.fr a h, b.fr a h], c.hh, c.psn⟩
theorem Base.here (b : Base F0 H0 ps0 ps F H) : Base F H0 ps0 ps F H := ⟨Ex.refl F, fun _ _ => rfl, b.hh, b.psn⟩
end
section
variable (K : PySem.W.Frag) (mg : Str → Option Value) (E : XK)
/-- what is wanted behind a statement -/
def FlP (F0 H0 : Hp) (ps0 : Option Addr) (D : Ends) : Fl → List DL.D → Prop
  | .nx ρ', S' => ∀ σ' ps' F' H', En K mg H0 ps' F' H' σ' ρ' S' → Base F0 H0 ps0 ps' F' H' → D.nx σ' H'
  | .bk ρ', S' => ∀ σ' ps' F' H', En K mg H0 ps' F' H' σ' ρ' S' → Base F0 H0 ps0 ps' F' H' → D.bk σ' H'
  | .ct ρ', S' => ∀ σ' ps' F' H', En K mg H0 ps' F' H' σ' ρ' S' → Base F0 H0 ps0 ps' F' H' → D.ct σ' H'
  | .rt d, S' => ∀ v ps' F' H', Ex F' H' → StR K mg ps' F' H' S' → Base F0 H0 ps0 ps' F' H' → Rp K mg F' v d → D.rt v H'
  | .rl xs, S' => ∀ p vs ps' F' H', Ex F' H' → StR K mg ps' F' H' S' → Base F0 H0 ps0 ps' F' H' → H' p = none → Rps K mg F' vs xs → D.rt (.ref p) (upd H' p (.lst vs))
def FlR (F0 H0 : Hp) (ps0 : Option Addr) (D : Ends) (r : R Fl) : Prop := match r with
  | .bad => False
  | .ok f S' => FlP K mg F0 H0 ps0 D f S'
  | .exc c fs S' => ∀ cls dx ps' F' H', Ex F' H' → StR K mg ps' F' H' S' → Base F0 H0 ps0 ps' F' H' → ExR K mg F' H' cls dx c fs → E cls dx H'
def tS (ψ : DS) : TS := fun D σ H => ∃ F0 H0 ps0 ps F ρ S, En K mg H0 ps F H σ ρ S ∧ Base F0 H0 ps0 ps F H ∧ FlR K mg E F0 H0 ps0 D (ψ ρ S)
end
section
variable {K : PySem.W.Frag} {mg : Str → Option Value} {E : XK} {F0 H0 : Hp} {ps0 ps : Option Addr} {F H F1 H1 : Hp} {S S1 : List D} {D : Ends}
/-- a computation ahead of a statement's end -/
theorem FlR.run {α : Type} {m : M α} {f : α → M Fl} (st : StR K mg ps F H S) (b : Base F0 H0 ps0 ps F H) (h : FlR K mg E F0 H0 ps0 D (bnd m f S)) :
    Ps K mg E ps F H (m S) fun a S1 F1 H1 => FlR K mg E F0 H0 ps0 D (f a S1) := by
  cases hm : m S with
  | bad => unfold DL.bnd at h; rw [hm] at h; exact h
  | exc c fs S' =>
    unfold DL.bnd at h; rw [hm] at h
    exact fun cls dx F' H' g st' e => h cls dx ps F' H' g.fh st' (b.grow st g) e
  | ok a S1 =>
    rw [bnd_ok hm] at h
    exact fun F1 H1 g st1 => h
theorem FlR.base (b : Base F0 H0 ps0 ps F H) {r : R Fl} (h : FlR K mg E F0 H0 ps0 D r) : FlR K mg E F H0 ps0 D r := by
  cases r with
  | bad => exact h
  | exc c fs S' => exact fun cls dx ps' F' H' e st bb x => h cls dx ps' F' H' e st (b.trans bb) x
  | ok f S' =>
    cases f with
    | nx ρ => exact fun σ' ps' F' H' en bb => h σ' ps' F' H' en (b.trans bb)
    | bk ρ => exact fun σ' ps' F' H' en bb => h σ' ps' F' H' en (b.trans bb)
    | ct ρ => exact fun σ' ps' F' H' en bb => h σ' ps' F' H' en (b.trans bb)
    | rt d => exact fun v ps' F' H' e st bb r => h v ps' F' H' e st (b.trans bb) r
    | rl d => exact fun p vs ps' F' H' e st bb hp r => h p vs ps' F' H' e st (b.trans bb) hp r
end
section
variable {X : Cx} {mg : Str → Option Value} {E : XK} {a b e c : Expr} {es : List Expr} {φ ψ : DE → M D} {τ υ : DE → M Bool} {pos : Pos} {st : Stmt} {rest : List Stmt} {s t : DS}
theorem z_nil : PSs X [] (tS X.K mg E sSkip) := pss_imp pss_nil fun D σ H => by
  rintro ⟨F0, H0, ps0, ps, F, ρ, S, env, bs, h⟩
  exact h σ ps F H env bs
theorem z_one (h : PS X st (tS X.K mg E s)) : PSs X [st] (tS X.K mg E s) := pss_one h
theorem z_cons (h1 : PS X st (tS X.K mg E s)) (h2 : PSs X rest (tS X.K mg E t)) : PSs X (st :: rest) (tS X.K mg E (sSeq s t)) := pss_imp (pss_cons h1 h2) fun D σ H => by
  rintro ⟨F0, H0, ps0, ps, F, ρ, S, env, bs, h⟩
  refine ⟨F0, H0, ps0, ps, F, ρ, S, env, bs, ?_⟩
  unfold sSeq DL.bnd at h
  cases hs : s ρ S with
  | bad => rw [hs] at h; exact h
  | exc c fs S' => rw [hs] at h; exact h
  | ok f S' =>
    rw [hs] at h
    cases f with
    | nx ρ' => exact fun σ' ps' F' H' en bb => ⟨F0, H0, ps0, ps', F', ρ', S', en, bb, h⟩
    | bk ρ' => exact h
    | ct ρ' => exact h
    | rt d => exact h
    | rl d => exact h
theorem z_pass : PS X (.Pass pos) (tS X.K mg E sSkip) := ps_imp ps_pass fun D σ H => by
  rintro ⟨F0, H0, ps0, ps, F, ρ, S, env, bs, h⟩
  exact h σ ps F H env bs
theorem z_if {x y : List Stmt} (hc : PT X c (tDT X.K mg E τ)) (ha : PSs X x (tS X.K mg E s)) (hb : PSs X y (tS X.K mg E t)) : PS X (.If c x y pos) (tS X.K mg E (sIf τ s t)) := ps_imp (ps_if hc ha hb) fun D σ H => by
  rintro ⟨F0, H0, ps0, ps, F, ρ, S, env, bs, h⟩
  refine ⟨H0, ps, F, ρ, S, env, (FlR.run env.st bs h).imp fun x S1 F1 H1 g1 st1 h1 => ?_⟩
  cases x with
  | true => exact ⟨F0, H0, ps0, ps, F1, ρ, S1, env.grow g1 st1, bs.grow env.st g1, h1⟩
  | false => exact ⟨F0, H0, ps0, ps, F1, ρ, S1, env.grow g1 st1, bs.grow env.st g1, h1⟩
theorem go_A {i : Nat} : ∀ D σ H, tS X.K mg E (sA i φ) D σ H → tAsg (tD X.K mg E φ) (gName i) D σ H := fun D σ H => by
  rintro ⟨F0, H0, ps0, ps, F, ρ, S, env, bs, h⟩
  refine ⟨H0, ps, F, ρ, S, env, (FlR.run env.st bs h).imp fun x S1 F1 H1 g1 st1 h1 v hv => ?_⟩
  split at h1
  · rename_i hd
    exact h1 _ ps F1 H1 ((env.grow g1 st1).set (hv.rp hd) i) (bs.grow env.st g1)
  · exact h1.elim
theorem z_set {i : Nat} {x : Str} {pos' : Pos} (hN : X.N.Nodup) (hi : X.N[i]? = some x) (hx : Loc X.env.scope x) (he : PE X e (tD X.K mg E φ)) (hs : swapsWith e (some (.Name x pos')) pos.line X.env = pure false := by rfl) (hf : X.fn x = true ∨ X.env.scope.names.lookup x = some .local := by first | exact .inl rfl | exact .inr rfl | assumption) :
    PS X (.Assign [.Name x pos'] e pos) (tS X.K mg E (sA i φ)) := ps_imp (ps_set hN hi hx he hs hf) go_A
/-- a local list at a slot -/
theorem En.setMu {K : PySem.W.Frag} {H0 : Hp} {ps : Option Addr} {F H : Hp} {σ : L2.St} {ρ : DE} {S : List D} {p : Addr} {vs : List V} {xs : List D} (env : En K mg H0 ps F H σ ρ S) (hp : H p = none) (h0 : H0 p = none) (r : Rps K mg F vs xs) (i : Nat) :
    En K mg H0 ps F (upd H p (.lst vs)) (σ.set i (some (.ref p))) (ρ.set i (some (.mu xs))) S := by
  have env2 := env.beside (o := .lst vs) hp
  have hps : some p ≠ ps := fun z => by
    obtain ⟨_, ws, q, _⟩ := env.st.1 p z.symm
    rw [hp] at q; cases q
  refine ⟨env2.fh, env2.st, by rw [List.length_set, List.length_set]; exact env.len, fun j d h => ?_, fun j k ys zs v hjk h1 h2 h3 h4 => ?_⟩
  · by_cases z : i = j
    · subst z
      have hl : i < ρ.length := by
        have := (List.getElem?_eq_some_iff.mp h).1
        rw [List.length_set] at this; exact this
      rw [List.getElem?_set_self hl] at h; cases h
      exact ⟨_, List.getElem?_set_self (by rw [env.len]; exact hl), .inr (.inl ⟨xs, rfl, p, vs, rfl, fresh_back env.fh hp, upd_same, r, h0, hps⟩)⟩
    · rw [List.getElem?_set_ne z] at h
      obtain ⟨w, h1, h2⟩ := env2.sl j d h
      exact ⟨w, by rw [List.getElem?_set_ne z]; exact h1, h2⟩
  · -- two different lists stand apart
    have far : ∀ (k : Nat) (zs : List DL.D), ρ[k]? = some (some (.mu zs)) → σ[k]? ≠ some (some (.ref p)) := fun k zs hk hq => by
      obtain ⟨w, e1, e2⟩ := env.sl k _ hk
      rw [hq] at e1; cases e1
      rcases e2 with e2 | ⟨_, _, q, ws, e, _, m, _⟩ | ⟨e, _⟩
      · cases e2
      · cases e; rw [hp] at m; cases m
      · cases e
    by_cases zj : i = j
    · subst zj
      have hl : i < σ.length := by
        have := (List.getElem?_eq_some_iff.mp h2).1
        rw [List.length_set] at this; exact this
      rw [List.getElem?_set_self hl] at h2; cases h2
      rw [List.getElem?_set_ne hjk] at h3 h4
      exact far k zs h3 h4
    · rw [List.getElem?_set_ne zj] at h1 h2
      by_cases zk : i = k
      · subst zk
        have hl : i < σ.length := by
          have := (List.getElem?_eq_some_iff.mp h4).1
          rw [List.length_set] at this; exact this
        rw [List.getElem?_set_self hl] at h4; cases h4
        exact far j ys h1 h2
      · rw [List.getElem?_set_ne zk] at h3 h4
        exact env.mne j k ys zs v hjk h1 h2 h3 h4
theorem Base.beside {F0 H0 : Hp} {ps0 ps : Option Addr} {F H : Hp} {p : Addr} {o : HO} (b : Base F0 H0 ps0 ps F H) (h0 : H0 p = none) : Base F0 H0 ps0 ps F (upd H p o) :=
  ⟨b.ff, b.fr, fun a u h n => by rw [upd_ne (ne_of_none h h0)]; exact b.hh a u h n, b.psn⟩
variable {l : DE → M (List D)}
theorem go_M {i : Nat} : ∀ D σ H, tS X.K mg E (sM i l) D σ H → tAsg (tDL X.K mg E l) (gName i) D σ H := fun D σ H => by
  rintro ⟨F0, H0, ps0, ps, F, ρ, S, env, bs, h⟩
  refine ⟨H0, ps, F, ρ, S, env, (FlR.run env.st bs h).imp fun xs S1 F1 H1 g1 st1 h1 p vs hp r => ?_⟩
  have bs1 := bs.grow env.st g1
  have h0 := bs1.fresh st1 hp
  exact h1 _ ps F1 _ ((env.grow g1 st1).setMu hp h0 r i) (bs1.beside h0)
theorem z_mut {i : Nat} {x : Str} {pos' : Pos} (hN : X.N.Nodup) (hi : X.N[i]? = some x) (hx : Loc X.env.scope x) (he : PE X e (tDL X.K mg E l)) (hs : swapsWith e (some (.Name x pos')) pos.line X.env = pure false := by rfl) (hf : X.fn x = true ∨ X.env.scope.names.lookup x = some .local := by first | exact .inl rfl | exact .inr rfl | assumption) :
    PS X (.Assign [.Name x pos'] e pos) (tS X.K mg E (sM i l)) := ps_imp (ps_set hN hi hx he hs hf) go_M
/-- state = f(..) -/
theorem go_new {i : Nat} : ∀ D σ H, tS X.K mg E (sNew i l) D σ H → tAsg (tDL X.K mg E l) (gName i) D σ H := fun D σ H => by
  rintro ⟨F0, H0, ps0, ps, F, ρ, S, env, bs, h⟩
  refine ⟨H0, ps, F, ρ, S, env, (FlR.run env.st bs h).imp fun xs S1 F1 H1 g1 st1 h1 p vs hp r => ?_⟩
  have bs1 := bs.grow env.st g1
  have h0 := bs1.fresh st1 hp
  have env1 := env.grow g1 st1
  split at h1
  · have hn : ps = none := by
      cases hq : ps with
      | none => rfl
      | some q =>
        obtain ⟨_, ws, _, r⟩ := st1.1 q hq
        cases r with
        | cons a r => cases a
    subst hn
    have hn0 : ps0 = none := by
      rcases bs.psn with e | ⟨e, _⟩
      · exact e.symm
      · exact e
    have env2 := env1.beside (o := .lst vs) hp
    have env3 : En X.K mg H0 (some p) F1 (upd H1 p (.lst vs)) σ ρ xs := by
      refine ⟨env2.fh, ⟨fun q hq => ?_, fun q => by cases q⟩, env2.len, fun j d hj => ?_, env2.mne⟩
      · cases hq; exact ⟨fresh_back g1.fh hp, vs, upd_same, r⟩
      · obtain ⟨w, e1, e2⟩ := env1.sl j d hj
        refine ⟨w, e1, ?_⟩
        rcases e2 with e2 | ⟨ys, e, q, ws, e', m1, m2, m3, m4, m5⟩ | ⟨_, _, e, _⟩
        · exact .inl e2
        · exact .inr (.inl ⟨ys, e, q, ws, e', m1, by rw [upd_ne (ne_of_none m2 hp)]; exact m2, m3, m4, fun z => by cases z; rw [hp] at m2; cases m2⟩)
        · cases e
    have b3 : Base F0 H0 ps0 (some p) F1 (upd H1 p (.lst vs)) := by
      have := bs1.beside (o := .lst vs) h0
      exact ⟨this.ff, this.fr, this.hh, .inr ⟨hn0, fun q hq => by cases hq; exact h0⟩⟩
    refine h1 _ (some p) F1 _ ?_ b3
    -- the slot
    refine ⟨env3.fh, env3.st, by rw [List.length_set, List.length_set]; exact env3.len, fun j d hj => ?_, fun j k ys zs v hjk e1 e2 e3 => ?_⟩
    · by_cases z : i = j
      · subst z
        have hl : i < ρ.length := by
          have := (List.getElem?_eq_some_iff.mp hj).1
          rw [List.length_set] at this; exact this
        rw [List.getElem?_set_self hl] at hj; cases hj
        exact ⟨_, List.getElem?_set_self (by rw [env.len]; exact hl), .inr (.inr ⟨rfl, p, rfl, rfl⟩)⟩
      · rw [List.getElem?_set_ne z] at hj
        obtain ⟨w, q1, q2⟩ := env3.sl j d hj
        exact ⟨w, by rw [List.getElem?_set_ne z]; exact q1, q2⟩
    · have nj : i ≠ j := fun z => by
        subst z
        have hl : i < ρ.length := by
          have := (List.getElem?_eq_some_iff.mp e1).1
          rw [List.length_set] at this; exact this
        rw [List.getElem?_set_self hl] at e1; cases e1
      have nk : i ≠ k := fun z => by
        subst z
        have hl : i < ρ.length := by
          have := (List.getElem?_eq_some_iff.mp e3).1
          rw [List.length_set] at this; exact this
        rw [List.getElem?_set_self hl] at e3; cases e3
      rw [List.getElem?_set_ne nj] at e1 e2
      rw [List.getElem?_set_ne nk] at e3 ⊢
      exact env3.mne j k ys zs v hjk e1 e2 e3
  · exact h1.elim
theorem z_new {i : Nat} {x : Str} {pos' : Pos} (hN : X.N.Nodup) (hi : X.N[i]? = some x) (hx : Loc X.env.scope x) (he : PE X e (tDL X.K mg E l)) (hs : swapsWith e (some (.Name x pos')) pos.line X.env = pure false := by rfl) (hf : X.fn x = true ∨ X.env.scope.names.lookup x = some .local := by first | exact .inl rfl | exact .inr rfl | assumption) :
    PS X (.Assign [.Name x pos'] e pos) (tS X.K mg E (sNew i l)) := ps_imp (ps_set hN hi hx he hs hf) go_new
/-- name = [.. for ..] -/
theorem lc_set {i : Nat} {y : Str} {py : Pos} {elt tg iter : Expr} {ifs : List Expr} {scope : Scope} {own : List (Str × Nat)} {pos spos : Pos} {it : DE → M (List D)} {sl : List Nat} {γ : D → DE → Option DE} (hc : X.calm = true) (hN : X.N.Nodup) (hy : X.N[i]? = some y) (hyl : X.env.scope.names.lookup y = some .local)
    (hsw : swapsWith (.ListComp elt [⟨tg, iter, ifs, 0⟩] scope pos) (some (.Name y py)) spos.line X.env = pure true) (hi : PI X tg iter (tDI X.K mg E it)) (ok : BlkOk X.N X.env.scope scope own) (hsl : ∀ i ∈ sl, i ∈ own.map (·.2))
    (hg : ∀ (s : Shared) (H : Hp) (C : Addr) (cl : List (Str × Addr)) (fp : List Addr), PG (X.blk s H scope (compEnvC scope cl C X.env) fp) tg (tDG X.K mg sl γ)) (ht : ∀ (s : Shared) (H : Hp) (C : Addr) (cl : List (Str × Addr)) (fp : List Addr), PTs (X.blk s H scope (compEnvC scope cl C X.env) fp) ifs (tDT X.K mg (fun _ _ _ => False) τ))
    (he : ∀ (s : Shared) (H : Hp) (C : Addr) (cl : List (Str × Addr)) (fp : List Addr), PE (X.blk s H scope (compEnvC scope cl C X.env) fp) elt (tD X.K mg (fun _ _ _ => False) φ)) (hs : ∀ x, foldedSetIterable iter X.env x = pure x := by intro _; rfl) :
    PS X (.Assign [.Name y py] (.ListComp elt [⟨tg, iter, ifs, 0⟩] scope pos) spos) (tAsg (tDL X.K mg E (lLc it γ τ φ (own.map (·.2)))) (gName i)) :=
  ps_imp (ps_setLc hc hN hy hyl hsw hi ok hg ht he hs) fun D σ H h => go_lc hsl σ H _ h
theorem go_AL {i : Nat} : ∀ D σ H, tS X.K mg E (sA i (eL l)) D σ H → tAsg (tDL X.K mg E l) (gName i) D σ H := fun D σ H h => by
  obtain ⟨F0, H0, ps0, ps, F, ρ, S, env, bs, h⟩ := h
  refine ⟨H0, ps, F, ρ, S, env, ?_⟩
  have h' : FlR X.K mg E F0 H0 ps0 D (bnd (l ρ) (fun xs => bnd (ret (DL.D.lst xs)) fun d => if DL.dat d then ret (.nx (ρ.set i (some d))) else bad) S) := by
    rw [← bnd_assoc]; exact h
  refine (FlR.run env.st bs h').imp fun xs S1 F1 H1 g1 st1 h1 p vs hp r => ?_
  have bs1 := bs.grow env.st g1
  have gn : Grow ps F1 H1 (upd F1 p (.lst vs)) (upd H1 p (.lst vs)) := Grow.new g1.fh hp
  have sn : StR X.K mg ps (upd F1 p (.lst vs)) (upd H1 p (.lst vs)) S1 := st1.new g1.fh hp
  exact h1 _ ps _ _ (((env.grow g1 st1).grow gn sn).set (.lst upd_same (r.mono gn.ff)) i) (bs1.grow st1 gn)
/-- .. as a kept value, a list to change, the law's list -/
theorem z_tA {i : Nat} {st : Stmt} (h : PS X st (tAsg (tDL X.K mg E l) (gName i))) : PS X st (tS X.K mg E (sA i (eL l))) := ps_imp h go_AL
theorem z_tM {i : Nat} {st : Stmt} (h : PS X st (tAsg (tDL X.K mg E l) (gName i))) : PS X st (tS X.K mg E (sM i l)) := ps_imp h go_M
/-- targets that are a tuple of names -/
theorem z_tup {tg : Expr} {sl : List Nat} (he : PE X e (tD X.K mg E φ)) (hg : PG X tg (tDG X.K mg sl (gT sl))) (hs : swapsWithSole [tg] e pos.line X.env = pure false := by rfl) (hw : swappedStores [tg] e X.env = pure none := by rfl)
    (h1 : (assignEach [tg] X.env).map (·.2) = [assign tg X.env] := by rfl) : PS X (.Assign [tg] e pos) (tS X.K mg E (sT sl φ)) := ps_imp (ps_asg he hg hs hw h1) fun D σ H => by
  rintro ⟨F0, H0, ps0, ps, F, ρ, S, env, bs, h⟩
  refine ⟨H0, ps, F, ρ, S, env, (FlR.run env.st bs h).imp fun d S1 F1 H1 g1 st1 h1 v hv => ?_⟩
  have bs1 := bs.grow env.st g1
  have h2 := FlR.run st1 bs1 h1
  obtain ⟨ρ', e, k⟩ := h2.opt
  have hd : DL.dat d = true := by
    unfold gT at e
    split at e
    · rfl
    · rfl
    · cases e
  exact ⟨H0, ps, F1, ρ, S1, d, ρ', env.grow g1 st1, hv.rp hd, e, fun σ' _ _ en => (k F1 H1 (Grow.refl g1.fh) st1) σ' ps F1 H1 en bs1⟩
/-- a, b = x, y -/
theorem z_par {i j : Nat} {x y : Str} {α : DE → M (List D)} {px py pt : Pos} {kt k2 pt2} (hc : X.calm = true) (hN : X.N.Nodup) (hi : X.N[i]? = some x) (hj : X.N[j]? = some y) (hij : i ≠ j)
    (hx : X.env.scope.names.lookup x = some .local) (hy : X.env.scope.names.lookup y = some .local) (ha : PA X [a, b] (tDA X.K mg E α))
    (hw : swappedStores [.Tuple [.Name x px, .Name y py] kt pt] (.Tuple [a, b] k2 pt2) X.env = pure (some [x, y]))
    (hs : swapsWithSole [.Tuple [.Name x px, .Name y py] kt pt] (.Tuple [a, b] k2 pt2) pos.line X.env = pure false := by rfl) :
    PS X (.Assign [.Tuple [.Name x px, .Name y py] kt pt] (.Tuple [a, b] k2 pt2) pos) (tS X.K mg E (sP i j α)) := ps_imp (ps_par hc hN hi hj hij hx hy ha hw hs) fun D σ H => by
  rintro ⟨F0, H0, ps0, ps, F, ρ, S, env, bs, h⟩
  refine ⟨H0, ps, F, ρ, S, env, (FlR.run env.st bs h).imp fun ds S1 F1 H1 g1 st1 h1 vs hv => ?_⟩
  split at h1
  · split at h1
    · rename_i hd
      rw [Bool.and_eq_true] at hd
      cases hv with
      | cons a r =>
        cases r with
        | cons b r =>
          cases r
          exact ⟨_, _, rfl, h1 _ ps F1 H1 (((env.grow g1 st1).set (a.rp hd.1) i).set (b.rp hd.2) j) (bs.grow env.st g1)⟩
    · exact h1.elim
  · exact h1.elim
theorem z_expr (he : PE X e (tD X.K mg E φ)) (hs : swapsWith e none pos.line X.env = pure false := by rfl) : PS X (.Expr e pos) (tS X.K mg E (sE φ)) := ps_imp (ps_expr he hs) fun D σ H => by
  rintro ⟨F0, H0, ps0, ps, F, ρ, S, env, bs, h⟩
  exact ⟨H0, ps, F, ρ, S, env, (FlR.run env.st bs h).imp fun d S1 F1 H1 g1 st1 h1 v hv => h1 σ ps F1 H1 (env.grow g1 st1) (bs.grow env.st g1)⟩
theorem z_ret (he : PE X e (tD X.K mg E φ)) : PS X (.Return (some e) pos) (tS X.K mg E (sR φ)) := ps_imp (ps_ret he) fun D σ H => by
  rintro ⟨F0, H0, ps0, ps, F, ρ, S, env, bs, h⟩
  refine ⟨H0, ps, F, ρ, S, env, (FlR.run env.st bs h).imp fun d S1 F1 H1 g1 st1 h1 v hv => ?_⟩
  split at h1
  · rename_i hd
    exact h1 v ps F1 H1 g1.fh st1 (bs.grow env.st g1) (hv.rp hd)
  · exact h1.elim
theorem z_retL (he : PE X e (tDL X.K mg E l)) : PS X (.Return (some e) pos) (tS X.K mg E (sRL l)) := ps_imp (ps_ret he) fun D σ H => by
  rintro ⟨F0, H0, ps0, ps, F, ρ, S, env, bs, h⟩
  exact ⟨H0, ps, F, ρ, S, env, (FlR.run env.st bs h).imp fun d S1 F1 H1 g1 st1 h1 p vs hp r => h1 p vs ps F1 H1 g1.fh st1 (bs.grow env.st g1) hp r⟩
/-- a changed list becomes a kept one: nothing happens -/
theorem z_frz {i : Nat} (h : PS X st (tS X.K mg E s)) : PS X st (tS X.K mg E (sFz i s)) := ps_imp h fun D σ H => by
  rintro ⟨F0, H0, ps0, ps, F, ρ, S, env, bs, h⟩
  unfold sFz frz at h
  cases hj : ρ[i]? with
  | none => rw [hj] at h; exact ⟨F0, H0, ps0, ps, F, ρ, S, env, bs, h⟩
  | some o =>
    rw [hj] at h
    cases o with
    | none => exact ⟨F0, H0, ps0, ps, F, ρ, S, env, bs, h⟩
    | some d =>
      cases d <;> first | exact ⟨F0, H0, ps0, ps, F, ρ, S, env, bs, h⟩ | skip
      rename_i xs
      obtain ⟨v, e1, e2⟩ := env.sl i _ hj
      rcases e2 with e2 | ⟨ys, e, q, ws, e', m1, m2, m3, m4, m5⟩ | ⟨e, _⟩
      · cases e2
      · cases e
        subst e'
        have ff : Ex F (upd F q (.lst ws)) := Ex.new m1
        have fh : Ex (upd F q (.lst ws)) H := fun a u h => by
          by_cases z : a = q
          · subst z; rw [upd_same] at h; cases h; exact m2
          · rw [upd_ne z] at h; exact env.fh a u h
        have env2 : En X.K mg H0 ps (upd F q (.lst ws)) H σ (ρ.set i (some (.lst xs))) S := by
          refine ⟨fh, ⟨fun p hp => ?_, env.st.2⟩, by rw [List.length_set]; exact env.len, fun j d hd => ?_, fun j k ys zs v hjk h1 h2 h3 => ?_⟩
          · obtain ⟨a1, vs, a2, a3⟩ := env.st.1 p hp
            exact ⟨by rw [upd_ne (fun z => m5 (by rw [← z, hp]))]; exact a1, vs, a2, a3.mono ff⟩
          · by_cases z : i = j
            · subst z
              have hl : i < ρ.length := (List.getElem?_eq_some_iff.mp hj).1
              rw [List.getElem?_set_self hl] at hd; cases hd
              exact ⟨_, e1, .inl (.lst upd_same (m3.mono ff))⟩
            · rw [List.getElem?_set_ne z] at hd
              obtain ⟨w, a1, a2⟩ := env.sl j d hd
              refine ⟨w, a1, ?_⟩
              rcases a2 with a2 | ⟨ys, e, p, us, e', b1, b2, b3, b4, b5⟩ | a2
              · exact .inl (a2.mono ff)
              · subst e
                subst e'
                have : p ≠ q := fun z2 => env.mne i j _ _ _ z hj e1 hd (by rw [z2] at a1; exact a1)
                exact .inr (.inl ⟨ys, rfl, p, us, rfl, by rw [upd_ne this]; exact b1, b2, b3.mono ff, b4, b5⟩)
              · exact .inr (.inr a2)
          · have nj : i ≠ j := fun z => by
              subst z
              rw [List.getElem?_set_self (List.getElem?_eq_some_iff.mp hj).1] at h1; cases h1
            have nk : i ≠ k := fun z => by
              subst z
              rw [List.getElem?_set_self (List.getElem?_eq_some_iff.mp hj).1] at h3; cases h3
            rw [List.getElem?_set_ne nj] at h1
            rw [List.getElem?_set_ne nk] at h3
            exact env.mne j k ys zs v hjk h1 h2 h3
        refine ⟨F0, H0, ps0, ps, _, _, S, env2, ⟨bs.ff.trans ff, fun a ha => ?_, bs.hh, bs.psn⟩, h⟩
        rw [upd_ne (fun z => ha (by rw [z]; exact m4))]
        exact bs.fr a ha
      · cases e
theorem En.reMu {K : PySem.W.Frag} {H0 : Hp} {ps : Option Addr} {F H : Hp} {σ : L2.St} {ρ : DE} {S : List D} {i : Nat} {p : Addr} {ws : List V} {xs ys : List D} (env : En K mg H0 ps F H σ ρ S) (hi : ρ[i]? = some (some (.mu xs))) (hs : σ[i]? = some (some (.ref p)))
    (m1 : F p = none) (m4 : H0 p = none) (m5 : some p ≠ ps) (r : Rps K mg F ws ys) : En K mg H0 ps F (upd H p (.lst ws)) σ (ρ.set i (some (.mu ys))) S := by
  refine ⟨fun a u h => by rw [upd_ne (ne_of_none h m1)]; exact env.fh a u h, ⟨fun q hq => ?_, env.st.2⟩, by rw [List.length_set]; exact env.len, fun j d hd => ?_, fun j k us zs v hjk h1 h2 h3 => ?_⟩
  · obtain ⟨a1, vs, a2, a3⟩ := env.st.1 q hq
    exact ⟨a1, vs, by rw [upd_ne (fun z => m5 (by rw [← z, hq]))]; exact a2, a3⟩
  · by_cases z : i = j
    · subst z
      rw [List.getElem?_set_self (List.getElem?_eq_some_iff.mp hi).1] at hd; cases hd
      exact ⟨_, hs, .inr (.inl ⟨ys, rfl, p, ws, rfl, m1, upd_same, r, m4, m5⟩)⟩
    · rw [List.getElem?_set_ne z] at hd
      obtain ⟨w, a1, a2⟩ := env.sl j d hd
      refine ⟨w, a1, ?_⟩
      rcases a2 with a2 | ⟨us, e, q, ts, e', b1, b2, b3, b4, b5⟩ | a2
      · exact .inl a2
      · subst e
        subst e'
        have : q ≠ p := fun z2 => env.mne i j _ _ _ z hi hs hd (by rw [z2] at a1; exact a1)
        exact .inr (.inl ⟨us, rfl, q, ts, rfl, b1, by rw [upd_ne this]; exact b2, b3, b4, b5⟩)
      · exact .inr (.inr a2)
  · have back : ∀ (j : Nat) (us : List DL.D), (ρ.set i (some (.mu ys)))[j]? = some (some (.mu us)) → ∃ us', ρ[j]? = some (some (.mu us')) := fun j us h => by
      by_cases z : i = j
      · subst z; exact ⟨_, hi⟩
      · rw [List.getElem?_set_ne z] at h; exact ⟨_, h⟩
    obtain ⟨u1, q1⟩ := back j us h1
    obtain ⟨u2, q2⟩ := back k zs h3
    exact env.mne j k u1 u2 v hjk q1 h2 q2
theorem En.mu {K : PySem.W.Frag} {H0 : Hp} {ps : Option Addr} {F H : Hp} {σ : L2.St} {ρ : DE} {S : List D} {i : Nat} {xs : List D} (env : En K mg H0 ps F H σ ρ S) (h : (ρ[i]?).join = some (.mu xs)) :
    ρ[i]? = some (some (.mu xs)) ∧ ∃ p vs, σ[i]? = some (some (.ref p)) ∧ F p = none ∧ H p = some (.lst vs) ∧ Rps K mg F vs xs ∧ H0 p = none ∧ some p ≠ ps := by
  cases hj : ρ[i]? with
  | none => rw [hj] at h; cases h
  | some o =>
    rw [hj] at h
    cases o with
    | none => cases h
    | some d =>
      cases h
      obtain ⟨v, e1, e2⟩ := env.sl i _ hj
      rcases e2 with e2 | ⟨ys, e, q, ws, e', m⟩ | ⟨e, _⟩
      · cases e2
      · cases e; subst e'; exact ⟨rfl, q, ws, e1, m⟩
      · cases e
/-- x.append(e) -/
theorem z_app {i : Nat} (h : PE X e (tBM X.K "list" rAppend (tVar i) (tCons (tD X.K mg E φ) tNil))) (hs : swapsWith e none pos.line X.env = pure false := by rfl) :
    PS X (.Expr e pos) (tS X.K mg E (sAp i φ)) := ps_imp (ps_expr h hs) fun D σ H => by
  rintro ⟨F0, H0, ps0, ps, F, ρ, S, env, bs, h⟩
  unfold sAp at h
  cases hm : (ρ[i]?).join with
  | none => rw [hm] at h; exact h.elim
  | some dd =>
    rw [hm] at h
    cases dd <;> first | exact h.elim | skip
    rename_i xs
    obtain ⟨hi, p, vs, e1, m1, m2, m3, m4, m5⟩ := env.mu hm
    refine ⟨_, e1, .inl ⟨rfl, vs, sq_of m2⟩, H0, ps, F, ρ, S, env, (FlR.run env.st bs h).imp fun d S1 F1 H1 g1 st1 h1 v hv => ?_⟩
    split at h1
    · rename_i hc
      rw [Bool.and_eq_true, decide_eq_true_eq] at hc
      have env1 := env.grow g1 st1
      have bs1 := bs.grow env.st g1
      have q1 : F1 p = none := by rw [g1.fr p (by rw [m2]; intro q; cases q)]; exact m1
      have r1 : Rps X.K mg F1 (vs ++ [v]) (xs ++ [d]) := (m3.mono g1.ff).append (.cons (hv.rp hc.1) .nil)
      exact ⟨p, vs, v, rfl, rfl, g1.hh p _ m2 m5, sz_lt (by rw [m3.length]; exact hc.2), h1 _ ps F1 _ (env1.reMu hi e1 q1 m4 m5 r1) (bs1.beside m4)⟩
    · exact h1.elim
/-- x[k] = e -/
theorem z_sub {i : Nat} {tg : Expr} {κ : DE → M DL.D} (he : PE X e (tD X.K mg E φ)) (hg : PG X tg (gSub (tVar i) (tD X.K mg E κ) rSetL))
    (hs : swapsWithSole [tg] e pos.line X.env = pure false := by rfl) (hw : swappedStores [tg] e X.env = pure none := by rfl) (h1 : (assignEach [tg] X.env).map (·.2) = [assign tg X.env] := by rfl) :
    PS X (.Assign [tg] e pos) (tS X.K mg E (sSt i κ φ)) := ps_imp (ps_asg he hg hs hw h1) fun D σ H => by
  rintro ⟨F0, H0, ps0, ps, F, ρ, S, env, bs, h⟩
  refine ⟨H0, ps, F, ρ, S, env, (FlR.run env.st bs h).imp fun d S1 F1 H1 g1 st1 h1 v hv => ?_⟩
  have env1 := env.grow g1 st1
  have bs1 := bs.grow env.st g1
  cases hm : (ρ[i]?).join with
  | none => rw [hm] at h1; exact h1.elim
  | some dd =>
    rw [hm] at h1
    cases dd <;> first | exact h1.elim | skip
    · rename_i xs
      obtain ⟨hi, p, vs, e1, m1, m2, m3, m4, m5⟩ := env1.mu hm
      refine ⟨_, e1, H0, ps, F1, ρ, S1, env1, (FlR.run st1 bs1 h1).imp fun y S2 F2 H2 g2 st2 h2 u hu => ?_⟩
      have env2 := env1.grow g2 st2
      have bs2 := bs1.grow st1 g2
      split at h2
      · rename_i z
        have hu := hu.rp rfl
        cases hu
        split at h2
        · rename_i hdd
          obtain ⟨j, ej, k2⟩ := (FlR.run st2 bs2 h2).opt
          have k2 := k2 F2 H2 (Grow.refl g2.fh) st2
          have rv := (hv.mono g2.ff).rp hdd
          have q1 : F2 p = none := by rw [g2.fr p (by rw [m2]; intro q; cases q)]; exact m1
          exact ⟨p, vs, z, j, rfl, rfl, g2.hh p _ m2 m5, by rw [m3.length]; exact ej, k2 _ ps F2 _ (env2.reMu hi e1 q1 m4 m5 ((m3.mono g2.ff).set rv j)) (bs2.beside m4)⟩
        · exact h2.elim
      · exact h2.elim
    · have hi : ρ[i]? = some (some .st) := by
        cases hj : ρ[i]? with
        | none => rw [hj] at hm; cases hm
        | some o =>
          rw [hj] at hm
          cases o with
          | none => cases hm
          | some d => cases hm; rfl
      obtain ⟨w, e1, e2⟩ := env1.sl i _ hi
      have hst : ∃ p, ps = some p ∧ w = .ref p := by
        rcases e2 with e2 | ⟨_, e2, _⟩ | ⟨_, e2⟩
        · cases e2
        · cases e2
        · exact e2
      obtain ⟨p, hp, rfl⟩ := hst
      refine ⟨_, e1, H0, ps, F1, ρ, S1, env1, (FlR.run st1 bs1 h1).imp fun y S2 F2 H2 g2 st2 h2 u hu => ?_⟩
      have env2 := env1.grow g2 st2
      have bs2 := bs1.grow st1 g2
      split at h2
      · rename_i z
        have hu := hu.rp rfl
        cases hu
        split at h2
        · rename_i hdd
          have rv := (hv.mono g2.ff).rp hdd
          obtain ⟨n1, vs, n2, n3⟩ := st2.1 p hp
          dsimp only at h2
          cases ej : ixN S2.length z with
          | none => rw [ej] at h2; exact h2.elim
          | some j =>
            rw [ej] at h2
            refine ⟨p, vs, z, j, rfl, rfl, n2, by rw [n3.length]; exact ej, h2 _ ps F2 _ ?_ ?_⟩
            · refine ⟨fun a u h => by rw [upd_ne (ne_of_none h n1)]; exact env2.fh a u h, ⟨fun q hq => ?_, fun q => by rw [q] at hp; cases hp⟩, env2.len, fun j' d' hd' => ?_, env2.mne⟩
              · have : q = p := by rw [hp] at hq; exact (Option.some.inj hq).symm
                subst this
                exact ⟨n1, _, upd_same, n3.set rv j⟩
              · obtain ⟨w, a1, a2⟩ := env2.sl j' d' hd'
                refine ⟨w, a1, ?_⟩
                rcases a2 with a2 | ⟨us, e, q, ts, e', b1, b2, b3, b4, b5⟩ | a2
                · exact .inl a2
                · exact .inr (.inl ⟨us, e, q, ts, e', b1, by rw [upd_ne (fun z2 => b5 (by rw [z2, hp]))]; exact b2, b3, b4, b5⟩)
                · exact .inr (.inr a2)
            · refine ⟨bs2.ff, bs2.fr, fun a u ha n => ?_, bs2.psn⟩
              have : a ≠ p := fun z2 => by
                rcases bs2.psn with e | ⟨_, e⟩
                · exact n (by rw [z2, ← hp, e])
                · rw [z2, e p hp] at ha; cases ha
              rw [upd_ne this]; exact bs2.hh a u ha n
        · exact h2.elim
      · exact h2.elim
/-- for -/
theorem forD_cons {γ : DL.D → DE → Option DE} {b : DS} {x : DL.D} {xs : List DL.D} {ρ : DE} : forD γ b (x :: xs) ρ = bnd (opt (γ x ρ)) fun ρ1 => bnd (b ρ1) fun f => match f with
    | .nx ρ2 => forD γ b xs ρ2
    | .ct ρ2 => forD γ b xs ρ2
    | .bk ρ2 => ret (.nx ρ2)
    | f => ret f := rfl
theorem z_for {tg iter : Expr} {body : List Stmt} {it : DE → M (List DL.D)} {sl : List Nat} {γ : DL.D → DE → Option DE} (hp : PassesOwn (model X.prog X.w) X.A X.env X.xe) (hc : X.calm = true) (hi : PI X tg iter (tDI X.K mg E it)) (hg : PG X tg (tDG X.K mg sl γ)) (hb : PSs X body (tS X.K mg E s))
    (hs : ∀ x, foldedSetIterable iter X.env x = pure x := by intro _; rfl) : PS X (.For tg iter body [] pos) (tS X.K mg E (sFor it γ s)) := ps_imp (ps_for hp hc hi hg hb hs) fun D σ H => by
  rintro ⟨F0, H0, ps0, ps, F, ρ, S, env, bs, h⟩
  refine ⟨H0, ps, F, ρ, S, env, (FlR.run env.st bs h).imp fun xs S1 F1 H1 g1 st1 h1 J hJ => ?_⟩
  have env1 := env.grow g1 st1
  have bs1 := bs.grow env.st g1
  split at h1
  · -- from here on the ground is F1
    refine ⟨fun i m σ H => m + i = xs.length ∧ ∃ ps F ρ S, En X.K mg H0 ps F H σ ρ S ∧ Base F1 H0 ps0 ps F H ∧ FlR X.K mg E F1 H0 ps0 D (forD γ s (xs.drop i) ρ S), ⟨xs.length, by omega, ps, F1, ρ, S1, env1, bs1.here, by rw [List.drop_zero]; exact h1.base bs1⟩, ?_⟩
    rintro i m σ2 H2 ⟨hm, ps2, F2, ρ2, S2, env2, bs2, h2⟩
    by_cases hi : i < xs.length
    · right
      refine ⟨hJ.go F2 _ i bs2.ff env2.fh hi, fun σ H => ∃ m', m' < m ∧ (m' + (i + 1) = xs.length ∧ ∃ ps F ρ S, En X.K mg H0 ps F H σ ρ S ∧ Base F1 H0 ps0 ps F H ∧ FlR X.K mg E F1 H0 ps0 D (forD γ s (xs.drop (i + 1)) ρ S)), fun _ _ w => w, fun x H' hy => ?_⟩
      obtain ⟨F3, hst, rx⟩ := hJ.yld F2 _ H' i x xs[i] bs2.ff env2.fh (List.getElem?_eq_getElem hi) hy
      have g3 : Grow ps2 F2 H2 F3 H' ∧ StR X.K mg ps2 F3 H' S2 := by
        rcases hst with ⟨rfl, rfl⟩ | ⟨T, o, hT, rfl, rfl⟩
        · exact ⟨Grow.refl env2.fh, env2.st⟩
        · exact ⟨Grow.new env2.fh hT, env2.st.new env2.fh hT⟩
      have env3 := env2.grow g3.1 g3.2
      have bs3 := bs2.grow env2.st g3.1
      rw [List.drop_eq_getElem_cons hi, forD_cons] at h2
      obtain ⟨ρ3, e3, h3⟩ := (FlR.run env3.st bs3 h2).opt
      have h3 := h3 F3 H' (Grow.refl env3.fh) env3.st
      refine ⟨H0, ps2, F3, ρ2, S2, xs[i], ρ3, env3, rx, e3, fun σ' _ _ env4 => ?_⟩
      refine ⟨F1, H0, ps0, ps2, F3, ρ3, S2, env4, bs3, ?_⟩
      unfold DL.bnd at h3
      cases hbd : s ρ3 S2 with
      | bad => rw [hbd] at h3; exact h3
      | exc c fs S' => rw [hbd] at h3; exact h3
      | ok f S' =>
        rw [hbd] at h3
        cases f with
        | nx ρ' => exact fun σ' ps' F' H' en bb => ⟨m - 1, by omega, by omega, ps', F', ρ', S', en, bb, h3⟩
        | ct ρ' => exact fun σ' ps' F' H' en bb => ⟨m - 1, by omega, by omega, ps', F', ρ', S', en, bb, h3⟩
        | bk ρ' => exact h3
        | rt d => exact h3
        | rl d => exact h3
    · left
      have hi : i = xs.length := by omega
      subst hi
      rw [List.drop_length] at h2
      exact ⟨hJ.stop F2 _ bs2.ff env2.fh, h2 σ2 ps2 F2 H2 env2 bs2⟩
  · exact h1.elim
/-- while -/
theorem z_while {body : List Stmt} (hp : PassesOwn (model X.prog X.w) X.A X.env X.xe) (hc : PT X c (tDT X.K mg E τ)) (hb : PSs X body (tS X.K mg E s)) : PS X (.While c body [] pos) (tS X.K mg E (sWh τ s)) := ps_imp (ps_while hp hc hb) fun D σ H => by
  rintro ⟨F0, H0, ps0, ps, F, ρ, S, env, bs, h⟩
  have hn : ∃ n, FlR X.K mg E F0 H0 ps0 D (whN τ s n ρ S) := by
    unfold sWh at h
    split at h
    · exact ⟨_, h⟩
    · exact h.elim
  obtain ⟨n, h⟩ := hn
  refine ⟨fun m σ H => ∃ ps F ρ S, En X.K mg H0 ps F H σ ρ S ∧ Base F0 H0 ps0 ps F H ∧ FlR X.K mg E F0 H0 ps0 D (whN τ s m ρ S), ⟨n, ps, F, ρ, S, env, bs, h⟩, ?_⟩
  rintro m σ2 H2 ⟨ps2, F2, ρ2, S2, env2, bs2, h2⟩
  cases m with
  | zero => exact h2.elim
  | succ m =>
    unfold whN at h2
    refine ⟨H0, ps2, F2, ρ2, S2, env2, (FlR.run env2.st bs2 h2).imp fun x S3 F3 H3 g3 st3 h3 => ?_⟩
    have env3 := env2.grow g3 st3
    have bs3 := bs2.grow env2.st g3
    cases x with
    | false => exact h3 σ2 ps2 F3 H3 env3 bs3
    | true =>
      rw [if_pos rfl] at h3
      dsimp only
      rw [if_pos rfl]
      refine ⟨fun σ H => ∃ m', m' < m + 1 ∧ ∃ ps F ρ S, En X.K mg H0 ps F H σ ρ S ∧ Base F0 H0 ps0 ps F H ∧ FlR X.K mg E F0 H0 ps0 D (whN τ s m' ρ S), fun _ _ w => w, ?_⟩
      refine ⟨F0, H0, ps0, ps2, F3, ρ2, S3, env3, bs3, ?_⟩
      unfold DL.bnd at h3
      cases hbd : s ρ2 S3 with
      | bad => rw [hbd] at h3; exact h3
      | exc c fs S' => rw [hbd] at h3; exact h3
      | ok f S' =>
        rw [hbd] at h3
        cases f with
        | nx ρ' => exact fun σ' ps' F' H' en bb => ⟨m, by omega, ps', F', ρ', S', en, bb, h3⟩
        | ct ρ' => exact fun σ' ps' F' H' en bb => ⟨m, by omega, ps', F', ρ', S', en, bb, h3⟩
        | bk ρ' => exact h3
        | rt d => exact h3
        | rl d => exact h3
end

/-! ### defs -/
section
variable (K : PySem.W.Frag) (mg : Str → Option Value)
inductive ArgR (ps : Option Addr) (F : Hp) : List V → List D → Prop
  | nil : ArgR ps F [] []
  | cons {v : V} {vs : List V} {d : D} {ds : List D} : (Rp K mg F v d ∨ (d = .st ∧ ∃ p, ps = some p ∧ v = .ref p)) → ArgR ps F vs ds → ArgR ps F (v :: vs) (d :: ds)
/-- a def that hands back a value -/
def spD (np : Nat) (m : List D → M D) : Sp := fun vs H Q E => vs.length = np ∧ ∃ ps F S ds, Ex F H ∧ StR K mg ps F H S ∧ ArgR K mg ps F vs ds ∧ Ps K mg E ps F H (m ds S) fun d _ F' H' => ∀ v, Rp K mg F' v d → Q v H'
/-- .. a new list -/
def spL (np : Nat) (m : List D → M (List D)) : Sp := fun vs H Q E => vs.length = np ∧ ∃ ps F S ds, Ex F H ∧ StR K mg ps F H S ∧ ArgR K mg ps F vs ds ∧ Ps K mg E ps F H (m ds S) fun xs _ F' H' => ∀ p vs, H' p = none → Rps K mg F' vs xs → Q (.ref p) (upd H' p (.lst vs))
end
section
variable {K : PySem.W.Frag} {mg : Str → Option Value} {P : Program} {w : World} {base : Heap} {ps0 : Option Addr} {F H : Hp} {S : List D}
theorem ArgR.length : ∀ {vs : List V} {ds : List D}, ArgR K mg ps0 F vs ds → vs.length = ds.length
  | _, _, .nil => rfl
  | _, _, .cons _ r => by rw [List.length_cons, List.length_cons, ArgR.length r]
theorem ArgR.get : ∀ {vs : List V} {ds : List D} {i : Nat} {d : D}, ArgR K mg ps0 F vs ds → ds[i]? = some d → ∃ v, vs[i]? = some v ∧ (Rp K mg F v d ∨ (d = .st ∧ ∃ p, ps0 = some p ∧ v = .ref p))
  | _, _, i, _, .nil, h => by simp at h
  | _, _, 0, _, .cons a r, h => by simp at h; subst h; exact ⟨_, rfl, a⟩
  | _, _, i + 1, _, .cons a r, h => by
    obtain ⟨v, h1, h2⟩ := ArgR.get (i := i) r (by simpa using h)
    exact ⟨v, by simpa using h1, h2⟩
theorem start_get {N : List Str} {vs : List V} {ds : List D} (hl : vs.length = ds.length) (i : Nat) (d : D) (h : (startD N.length ds)[i]? = some (some d)) : ds[i]? = some d ∧ ∀ v, vs[i]? = some v → (L2.start N vs)[i]? = some (some v) := by
  unfold startD at h
  by_cases hi : i < ds.length
  · rw [List.getElem?_append_left (by rw [List.length_map]; exact hi), List.getElem?_map] at h
    cases hd : ds[i]? with
    | none => rw [hd] at h; cases h
    | some e =>
      rw [hd] at h
      injection h with h; injection h with h
      subst h
      refine ⟨rfl, fun v hv => ?_⟩
      unfold L2.start
      rw [List.getElem?_append_left (by rw [List.length_map, hl]; exact hi), List.getElem?_map, hv]; rfl
  · rw [List.getElem?_append_right (by rw [List.length_map]; omega)] at h
    have := List.mem_of_getElem? h
    have := List.eq_of_mem_replicate this
    cases this
theorem en_start {N : List Str} {vs : List V} {ds : List D} (e : Ex F H) (st : StR K mg ps0 F H S) (r : ArgR K mg ps0 F vs ds) : En K mg H ps0 F H (L2.start N vs) (startD N.length ds) S where
  fh := e
  st := st
  len := by unfold L2.start startD; simp [r.length]
  sl i d h := by
    obtain ⟨h1, h2⟩ := start_get r.length i d h
    obtain ⟨v, h3, h4⟩ := r.get h1
    refine ⟨v, h2 v h3, ?_⟩
    rcases h4 with h4 | h4
    · exact .inl h4
    · exact .inr (.inr h4)
  mne i j xs ys v hij h1 h2 h3 := by
    obtain ⟨q1, _⟩ := start_get r.length i _ h1
    obtain ⟨v', _, q2⟩ := r.get q1
    rcases q2 with q2 | ⟨q2, _⟩
    · cases q2
    · cases q2
theorem Base.toGrow {ps : Option Addr} {F' H' : Hp} (b : Base F H ps0 ps F' H') (e : Ex F' H') : Grow ps0 F H F' H' := ⟨b.ff, e, b.fr, b.hh⟩
theorem StR.down {ps : Option Addr} {F' H' : Hp} {S' : List D} (b : Base F H ps0 ps F' H') (st : StR K mg ps F' H' S') (hs : ps0 = none → S' = [.st]) : StR K mg ps0 F' H' S' := by
  refine ⟨fun p hp => ?_, hs⟩
  rcases b.psn with e | ⟨e, _⟩
  · exact st.1 p (by rw [e]; exact hp)
  · rw [e] at hp; cases hp
theorem StR.stq (st : StR K mg ps0 F H S) (h : S = [.st]) : ps0 = none := by
  cases hq : ps0 with
  | none => rfl
  | some q =>
    obtain ⟨_, ws, _, r⟩ := st.1 q hq
    subst h
    cases r with
    | cons a r => cases a
theorem back_down {ps : Option Addr} {F' H' : Hp} {S' : List D} (st : StR K mg ps0 F H S) (b : Base F H ps0 ps F' H') (st' : StR K mg ps F' H' S') : StR K mg ps0 F' H' (back S S') := by
  unfold back
  split
  · have e := st.stq rfl
    exact ⟨fun p hp => by (rw [e] at hp; cases hp), fun _ => rfl⟩
  · rename_i hn
    refine st'.down b fun e => absurd (st.2 e) (fun z => hn z)
/-- THE RULE for a def that raises nothing and hands back a value -/
theorem def_ok {x qual : Str} {st : Stmt} {f : Addr} {fd : FuncData} {N pn : List Str} {k : Nat} {b : DS} (Fn : Fun K x qual st f fd) (Sc : FnScope N pn (defScope st))
    (hb : ∀ (cdv : Value) (A : Around) (outer : List Env) (s : Shared) (H : Hp) (E : XK), Room k (A.deeper (envOfC qual (defScope st) s.heap.objs.size f cdv)) →
      PSs (cxOf CX0 P w K mg base N qual (defScope st) f cdv A outer s H E).nox (defBody st) (tS K mg (fun _ _ _ => False) b)) : FnOk P w K mg base CX0 (k + 1) f fd pn (spD K mg pn.length (runP N.length pn.length b)) := by
  refine Fn.ok Sc (fun vs H Q E h => h.1) (fun cdv A outer s H vs Q E hr h => ?_)
  obtain ⟨hl, ps, F, S, ds, e, st, r, h⟩ := h
  refine ⟨_, hb cdv A outer s H E hr, F, H, ps, ps, F, startD N.length ds, S, en_start e st r, Base.refl e, ?_⟩
  unfold runP nox run own at h
  have hn : ds.length = pn.length := by rw [← r.length]; exact hl
  rw [if_pos hn] at h
  unfold DL.bnd at h
  cases hbd : b (startD N.length ds) S with
  | bad => rw [hbd] at h; exact h.elim
  | exc c fs S' => rw [hbd] at h; exact h.elim
  | ok f S' =>
    rw [hbd] at h
    cases f with
    | nx ρ' => exact fun σ' ps' F' H' en bb => h F' H' (bb.toGrow en.fh) (back_down st bb en.st) .non .non
    | rt d => exact fun v ps' F' H' e' st' bb rv => h F' H' (bb.toGrow e') (back_down st bb st') v rv
    | bk _ => exact h.elim
    | ct _ => exact h.elim
    | rl _ => exact h.elim
theorem defL_ok {x qual : Str} {st : Stmt} {f : Addr} {fd : FuncData} {N pn : List Str} {k : Nat} {b : DS} (Fn : Fun K x qual st f fd) (Sc : FnScope N pn (defScope st))
    (hb : ∀ (cdv : Value) (A : Around) (outer : List Env) (s : Shared) (H : Hp) (E : XK), Room k (A.deeper (envOfC qual (defScope st) s.heap.objs.size f cdv)) →
      PSs (cxOf CX0 P w K mg base N qual (defScope st) f cdv A outer s H E).nox (defBody st) (tS K mg (fun _ _ _ => False) b)) : FnOk P w K mg base CX0 (k + 1) f fd pn (spL K mg pn.length (runLP N.length pn.length b)) := by
  refine Fn.ok Sc (fun vs H Q E h => h.1) (fun cdv A outer s H vs Q E hr h => ?_)
  obtain ⟨hl, ps, F, S, ds, e, st, r, h⟩ := h
  refine ⟨_, hb cdv A outer s H E hr, F, H, ps, ps, F, startD N.length ds, S, en_start e st r, Base.refl e, ?_⟩
  unfold runLP nox runL own at h
  have hn : ds.length = pn.length := by rw [← r.length]; exact hl
  rw [if_pos hn] at h
  unfold DL.bnd at h
  cases hbd : b (startD N.length ds) S with
  | bad => rw [hbd] at h; exact h.elim
  | exc c fs S' => rw [hbd] at h; exact h.elim
  | ok f S' =>
    rw [hbd] at h
    cases f with
    | rl xs => exact fun p vs ps' F' H' e' st' bb hp rv => h F' H' (bb.toGrow e') (back_down st bb st') p vs hp rv
    | nx _ => exact h.elim
    | rt _ => exact h.elim
    | bk _ => exact h.elim
    | ct _ => exact h.elim
end
section
variable {K : PySem.W.Frag} {mg : Str → Option Value} {P : Program} {w : World} {base : Heap}
theorem def_ok' {x qual : Str} {st : Stmt} {f : Addr} {fd : FuncData} {N pn : List Str} {k n np : Nat} {b : DS} {m : List D → M D} (Fn : Fun K x qual st f fd) (Sc : FnScope N pn (defScope st)) (hn : N.length = n) (hp : pn.length = np) (hm : m = runP n np b)
    (hb : ∀ (cdv : Value) (A : Around) (outer : List Env) (s : Shared) (H : Hp) (E : XK), Room k (A.deeper (envOfC qual (defScope st) s.heap.objs.size f cdv)) →
      PSs (cxOf CX0 P w K mg base N qual (defScope st) f cdv A outer s H E).nox (defBody st) (tS K mg (fun _ _ _ => False) b)) : FnOk P w K mg base CX0 (k + 1) f fd pn (spD K mg np m) := by
  subst hn hp hm
  exact def_ok Fn Sc hb
theorem defL_ok' {x qual : Str} {st : Stmt} {f : Addr} {fd : FuncData} {N pn : List Str} {k n np : Nat} {b : DS} {m : List D → M (List D)} (Fn : Fun K x qual st f fd) (Sc : FnScope N pn (defScope st)) (hn : N.length = n) (hp : pn.length = np) (hm : m = runLP n np b)
    (hb : ∀ (cdv : Value) (A : Around) (outer : List Env) (s : Shared) (H : Hp) (E : XK), Room k (A.deeper (envOfC qual (defScope st) s.heap.objs.size f cdv)) →
      PSs (cxOf CX0 P w K mg base N qual (defScope st) f cdv A outer s H E).nox (defBody st) (tS K mg (fun _ _ _ => False) b)) : FnOk P w K mg base CX0 (k + 1) f fd pn (spL K mg np m) := by
  subst hn hp hm
  exact defL_ok Fn Sc hb
end
section
variable {X : Cx} {mg : Str → Option Value} {E : XK} {e : Expr} {es : List Expr} {pos : Pos}
theorem VRs.arg {K : PySem.W.Frag} {ps : Option Addr} {σ : L2.St} {ρ : DE} {F : Hp} : ∀ {vs : List V} {ds : List D}, VRs K mg ps σ ρ F vs ds → (∀ d ∈ ds, ∀ xs, d ≠ D.mu xs) → ArgR K mg ps F vs ds
  | _, _, .nil, _ => .nil
  | _, _, .cons a r, h => .cons (by
      rcases a with a | ⟨i, xs, e, _⟩ | a
      · exact .inl a
      · exact absurd e (h _ List.mem_cons_self xs)
      · exact .inr a) (VRs.arg r fun d hd => h d (List.mem_cons_of_mem _ hd))
theorem noMu_ok {ds : List D} (h : noMu ds = true) : ∀ d ∈ ds, ∀ xs, d ≠ D.mu xs := fun d hd xs e => by
  unfold noMu at h
  have := List.all_eq_true.mp h d hd
  rw [e] at this; cases this
/-- f(e, ..) -/
def LenOk {α : Type} (np : Nat) (m : List D → M α) : Prop := ∀ ds S, ds.length ≠ np → m ds S = .bad
theorem run_len {n np : Nat} {b : DS} : LenOk np (run n np b) := fun ds S h => by unfold run; rw [if_neg h]; rfl
theorem runP_len {n np : Nat} {b : DS} : LenOk np (runP n np b) := fun ds S h => by unfold runP nox; rw [run_len ds S h]
theorem runL_len {n np : Nat} {b : DS} : LenOk np (runL n np b) := fun ds S h => by unfold runL; rw [if_neg h]; rfl
theorem runLP_len {n np : Nat} {b : DS} : LenOk np (runLP n np b) := fun ds S h => by unfold runLP nox; rw [runL_len ds S h]
theorem VRs.length {K : PySem.W.Frag} {ps : Option Addr} {σ : L2.St} {ρ : DE} {F : Hp} : ∀ {vs : List V} {ds : List D}, VRs K mg ps σ ρ F vs ds → vs.length = ds.length
  | _, _, .nil => rfl
  | _, _, .cons _ r => by rw [List.length_cons, List.length_cons, VRs.length r]
theorem d_call {x : Str} {p : Pos} {k np : Nat} {f : Addr} {fd : FuncData} {pn : List Str} {m : List D → M D} {α : DE → M (List D)} (F : FnOk X.prog X.w X.K X.mg X.base CX0 k f fd pn (spD X.K mg np m)) (hl : LenOk np m) (hr : Room k X.A) (hg : Gl X x) (hm : X.mg x = some (.ref f)) (hk : PySem.W.keepIn X.K (.ref f) = true) (hb : Binds X.K fd pn [])
    (ha : PA X (e :: es) (tDA X.K mg E α)) (hdb : (x == ("__debug__" : Str)) = false := by decide) (he : starEach (e :: es) X.env = (false, eval e X.env) :: starEach es X.env := by rfl) (hpl : (backTo pos (starEach es X.env)).any (·.1) = false := by rfl) :
    PE X (.Call (.Name x p) (e :: es) [] pos) (tD X.K mg E (eFn m α)) := pe_imp (pe_call (E := E0) F hr hg hm hk hb .nil pass0 ha hdb he hpl) fun σ H Q => by
  rintro ⟨H0, ps, F, ρ, S, env, h⟩
  refine ⟨H0, ps, F, ρ, S, env, (Ps.bnd env.st h).imp fun ds S1 F1 H1 g1 st1 h1 vs hv => ?_⟩
  split at h1
  · rename_i hn
    have r := hv.arg (noMu_ok hn)
    rw [List.append_nil]
    unfold nox at h1
    have hlen : vs.length = np := by
      rw [hv.length]
      by_cases z : ds.length = np
      · exact z
      · rw [hl ds S1 z] at h1; exact h1.elim
    refine ⟨hlen, ps, F1, S1, ds, g1.fh, st1, r, ?_⟩
    cases hq : m ds S1 with
    | bad => rw [hq] at h1; exact h1
    | ok d S2 => rw [hq] at h1; exact fun F' H' g st v rv => h1 F' H' g st v (.inl rv)
    | exc c fs S2 => rw [hq] at h1; exact h1.elim
  · exact h1.elim
theorem l_call {x : Str} {p : Pos} {k np : Nat} {f : Addr} {fd : FuncData} {pn : List Str} {m : List D → M (List D)} {α : DE → M (List D)} (F : FnOk X.prog X.w X.K X.mg X.base CX0 k f fd pn (spL X.K mg np m)) (hl : LenOk np m) (hr : Room k X.A) (hg : Gl X x) (hm : X.mg x = some (.ref f)) (hk : PySem.W.keepIn X.K (.ref f) = true) (hb : Binds X.K fd pn [])
    (ha : PA X (e :: es) (tDA X.K mg E α)) (hdb : (x == ("__debug__" : Str)) = false := by decide) (he : starEach (e :: es) X.env = (false, eval e X.env) :: starEach es X.env := by rfl) (hpl : (backTo pos (starEach es X.env)).any (·.1) = false := by rfl) :
    PE X (.Call (.Name x p) (e :: es) [] pos) (tDL X.K mg E (lFn m α)) := pe_imp (pe_call (E := E0) F hr hg hm hk hb .nil pass0 ha hdb he hpl) fun σ H Q => by
  rintro ⟨H0, ps, F, ρ, S, env, h⟩
  refine ⟨H0, ps, F, ρ, S, env, (Ps.bnd env.st h).imp fun ds S1 F1 H1 g1 st1 h1 vs hv => ?_⟩
  split at h1
  · rename_i hn
    have r := hv.arg (noMu_ok hn)
    rw [List.append_nil]
    unfold nox at h1
    have hlen : vs.length = np := by
      rw [hv.length]
      by_cases z : ds.length = np
      · exact z
      · rw [hl ds S1 z] at h1; exact h1.elim
    refine ⟨hlen, ps, F1, S1, ds, g1.fh, st1, r, ?_⟩
    cases hq : m ds S1 with
    | bad => rw [hq] at h1; exact h1
    | ok d S2 => rw [hq] at h1; exact fun F' H' g st p vs hp rv => h1 F' H' g st p vs hp rv
    | exc c fs S2 => rw [hq] at h1; exact h1.elim
  · exact h1.elim
/-- a def as it stands: where, by which names, how it is called, what it keeps -/
def Cal (P : Program) (w : World) (K : PySem.W.Frag) (mg : Str → Option Value) (base : Heap) (x : Str) (k np : Nat) (m : List D → M D) : Prop :=
  LenOk np m ∧ ∃ f fd pn, mg x = some (.ref f) ∧ PySem.W.keepIn K (.ref f) = true ∧ Binds K fd pn [] ∧ FnOk P w K mg base CX0 k f fd pn (spD K mg np m)
def CalL (P : Program) (w : World) (K : PySem.W.Frag) (mg : Str → Option Value) (base : Heap) (x : Str) (k np : Nat) (m : List D → M (List D)) : Prop :=
  LenOk np m ∧ ∃ f fd pn, mg x = some (.ref f) ∧ PySem.W.keepIn K (.ref f) = true ∧ Binds K fd pn [] ∧ FnOk P w K mg base CX0 k f fd pn (spL K mg np m)
theorem d_cal {x : Str} {p : Pos} {k np : Nat} {m : List D → M D} {α : DE → M (List D)} (C : Cal X.prog X.w X.K X.mg X.base x k np m) (hr : Room k X.A) (hg : Gl X x)
    (ha : PA X (e :: es) (tDA X.K X.mg E α)) (hdb : (x == ("__debug__" : Str)) = false := by decide) (he : starEach (e :: es) X.env = (false, eval e X.env) :: starEach es X.env := by rfl) (hpl : (backTo pos (starEach es X.env)).any (·.1) = false := by rfl) :
    PE X (.Call (.Name x p) (e :: es) [] pos) (tD X.K X.mg E (eFn m α)) := by
  obtain ⟨hl, f, fd, pn, h1, h2, h3, h4⟩ := C
  exact d_call h4 hl hr hg h1 h2 h3 ha hdb he hpl
theorem l_cal {x : Str} {p : Pos} {k np : Nat} {m : List D → M (List D)} {α : DE → M (List D)} (C : CalL X.prog X.w X.K X.mg X.base x k np m) (hr : Room k X.A) (hg : Gl X x)
    (ha : PA X (e :: es) (tDA X.K X.mg E α)) (hdb : (x == ("__debug__" : Str)) = false := by decide) (he : starEach (e :: es) X.env = (false, eval e X.env) :: starEach es X.env := by rfl) (hpl : (backTo pos (starEach es X.env)).any (·.1) = false := by rfl) :
    PE X (.Call (.Name x p) (e :: es) [] pos) (tDL X.K X.mg E (lFn m α)) := by
  obtain ⟨hl, f, fd, pn, h1, h2, h3, h4⟩ := C
  exact l_call h4 hl hr hg h1 h2 h3 ha hdb he hpl
/-- a def as the top has left it -/
def Df (K : PySem.W.Frag) (x : Str) (st : Stmt) : Prop := ∃ (f : Addr) (oc : Value) (od an : Option Addr) (osl : Array (Option Value)) (kV doc pm cdv ct : Value),
  PySem.W.nsIn K mainGlobals x = some (some (.ref f)) ∧ K.lookup f = some ⟨oc, od, .func (PySem.W.fnOf x x (defArgs st) (defBody st) (defScope st) .none kV doc pm an cdv ct), osl⟩ ∧ PySem.W.codeIn K cdv x = true ∧ PySem.W.keepIn K (.ref f) = true
theorem df_mk {K : PySem.W.Frag} {x : Str} {st : Stmt} {f : Addr} {oc : Value} {od an : Option Addr} {osl : Array (Option Value)} {kV doc pm cdv ct : Value} (a : PySem.W.nsIn K mainGlobals x = some (some (.ref f)))
    (l : K.lookup f = some ⟨oc, od, .func (PySem.W.fnOf x x (defArgs st) (defBody st) (defScope st) .none kV doc pm an cdv ct), osl⟩) (c : PySem.W.codeIn K cdv x = true) (k : PySem.W.keepIn K (.ref f) = true) : Df K x st := ⟨f, oc, od, an, osl, kV, doc, pm, cdv, ct, a, l, c, k⟩
theorem Df.cal {P : Program} {w : World} {K : PySem.W.Frag} {mg : Str → Option Value} {base h : Heap} {x : Str} {st : Stmt} {k np : Nat} {pn : List Str} {m : List D → M D} (D : Df K x st) (KX : K.In h) (G : h.Ns mainGlobals mg)
    (hb : ∀ (f : Addr) (kV doc pm : Value) (an : Option Addr) (cdv ct : Value) (us : List Value), us.length = pn.length → bindArgs (PySem.W.fnOf x x (defArgs st) (defBody st) (defScope st) .none kV doc pm an cdv ct) ⟨us, []⟩ = pure (pn.zip us)) (hl : LenOk np m)
    (ok : ∀ f fd, Fun K x x st f fd → FnOk P w K mg base CX0 k f fd pn (spD K mg np m)) : Cal P w K mg base x k np m := by
  obtain ⟨f, oc, od, an, osl, kV, doc, pm, cdv, ct, a, l, c, kp⟩ := D
  have F := fun_mk l c kp
  exact ⟨hl, f, _, pn, PySem.W.mg_of KX G a, kp, F.binds (hb f), ok f _ F⟩
theorem Df.calL {P : Program} {w : World} {K : PySem.W.Frag} {mg : Str → Option Value} {base h : Heap} {x : Str} {st : Stmt} {k np : Nat} {pn : List Str} {m : List D → M (List D)} (D : Df K x st) (KX : K.In h) (G : h.Ns mainGlobals mg)
    (hb : ∀ (f : Addr) (kV doc pm : Value) (an : Option Addr) (cdv ct : Value) (us : List Value), us.length = pn.length → bindArgs (PySem.W.fnOf x x (defArgs st) (defBody st) (defScope st) .none kV doc pm an cdv ct) ⟨us, []⟩ = pure (pn.zip us)) (hl : LenOk np m)
    (ok : ∀ f fd, Fun K x x st f fd → FnOk P w K mg base CX0 k f fd pn (spL K mg np m)) : CalL P w K mg base x k np m := by
  obtain ⟨f, oc, od, an, osl, kV, doc, pm, cdv, ct, a, l, c, kp⟩ := D
  have F := fun_mk l c kp
  exact ⟨hl, f, _, pn, PySem.W.mg_of KX G a, kp, F.binds (hb f), ok f _ F⟩
theorem cal_bad {P : Program} {w : World} {K : PySem.W.Frag} {mg : Str → Option Value} {base : Heap} {CX : CXT} {k np : Nat} {f : Addr} {fd : FuncData} {pn : List Str} : FnOk P w K mg base CX k f fd pn (spD K mg np fun _ => bad) :=
  ⟨fun vs H Q E ⟨_, ps, F, S, ds, _, _, _, h⟩ => h.elim, fun A outer s H args us vs Q E _ _ _ _ ⟨_, ps, F, S, ds, _, _, _, h⟩ => h.elim⟩
end
end DL

/-! Reasoning over the data level. -/
namespace DL
open PySem L2

/-! ### computations that end with a value -/
def wp {α : Type} (m : M α) (S : List D) (P : α → List D → Prop) : Prop := ∃ a S', m S = .ok a S' ∧ P a S'
section
variable {α β : Type} {m : M α} {f : α → M β} {S : List D} {P : β → List D → Prop} {Q Q' : α → List D → Prop}
theorem wp.bnd (h : wp m S fun a S1 => wp (f a) S1 P) : wp (bnd m f) S P := by
  obtain ⟨a, S1, e, b, S2, e2, h⟩ := h
  exact ⟨b, S2, by rw [bnd_ok e]; exact e2, h⟩
theorem wp.ret {a : α} (h : Q a S) : wp (ret a) S Q := ⟨a, S, rfl, h⟩
theorem wp.of {a : α} (e : m = DL.ret a) (h : Q a S) : wp m S Q := ⟨a, S, by rw [e]; rfl, h⟩
theorem wp.imp (h : wp m S Q) (k : ∀ a S', Q a S' → Q' a S') : wp m S Q' := by
  obtain ⟨a, S1, e, h⟩ := h
  exact ⟨a, S1, e, k a S1 h⟩
theorem wp.nox (h : wp m S Q) : wp (nox m) S Q := by
  obtain ⟨a, S1, e, h⟩ := h
  exact ⟨a, S1, nox_ok e, h⟩
theorem wp.step (h : wp m S Q) (k : ∀ a S1, Q a S1 → wp (f a) S1 P) : wp (DL.bnd m f) S P := wp.bnd (h.imp k)
theorem wp.ok {a : α} {S' : List D} (e : m S = .ok a S') (h : Q a S') : wp m S Q := ⟨a, S', e, h⟩
end
/-! ### defs -/
theorem runP_ret {n np : Nat} {b : DS} {ds : List D} {d : D} (hl : ds.length = np) (h : b (startD n ds) = ret (.rt d)) : runP n np b ds = ret d := by
  funext S
  unfold runP nox run own DL.bnd
  rw [if_pos hl, h]
  show R.ok d (back S S) = _
  rw [back_self]; rfl
theorem runP_wp {n np : Nat} {b : DS} {ds : List D} {S : List D} {P : D → List D → Prop} (hl : ds.length = np) (h : wp (b (startD n ds)) S fun f S' => ∃ d, f = .rt d ∧ P d (back S S')) : wp (runP n np b ds) S P := by
  obtain ⟨f, S', e, d, rfl, h⟩ := h
  refine ⟨d, back S S', ?_, h⟩
  unfold runP nox run own DL.bnd
  rw [if_pos hl, e]; rfl
theorem runLP_wp {n np : Nat} {b : DS} {ds : List D} {S : List D} {P : List D → List D → Prop} (hl : ds.length = np) (h : wp (b (startD n ds)) S fun f S' => ∃ d, f = .rl d ∧ P d (back S S')) : wp (runLP n np b ds) S P := by
  obtain ⟨f, S', e, d, rfl, h⟩ := h
  refine ⟨d, back S S', ?_, h⟩
  unfold runLP nox runL own DL.bnd
  rw [if_pos hl, e]; rfl
/-! ### equations -/
section
variable {ρ : DE} {a b : DE → M D} {α : DE → M (List D)} {τ υ : DE → M Bool} {s t : DS}
theorem eV_at {i : Nat} {d : D} (h : ρ[i]? = some (some d)) : eV i ρ = ret d := by unfold eV; rw [h]; rfl
theorem sSeq_nx {ρ' : DE} (h : s ρ = ret (.nx ρ')) : sSeq s t ρ = t ρ' := by unfold sSeq; rw [h]; rfl
theorem sSeq_rt {d : D} (h : s ρ = ret (.rt d)) : sSeq s t ρ = ret (.rt d) := by unfold sSeq; rw [h]; rfl
theorem sA_ret {i : Nat} {d : D} (h : a ρ = ret d) (hd : dat d = true) : sA i a ρ = ret (.nx (ρ.set i (some d))) := by unfold sA; rw [h, bnd_ret, if_pos hd]
theorem sR_ret {d : D} (h : a ρ = ret d) (hd : dat d = true) : sR a ρ = ret (.rt d) := by unfold sR; rw [h, bnd_ret, if_pos hd]
theorem sIf_ret {x : Bool} (h : τ ρ = ret x) : sIf τ s t ρ = if x then s ρ else t ρ := by unfold sIf; rw [h, bnd_ret]
theorem e2_ret {f : D → D → Option D} {x y z : D} (h1 : a ρ = ret x) (h2 : b ρ = ret y) (h3 : f x y = some z) : e2 f a b ρ = ret z := by unfold e2; rw [h1, bnd_ret, h2, bnd_ret, h3]; rfl
theorem e1_ret {f : D → Option D} {x z : D} (h1 : a ρ = ret x) (h3 : f x = some z) : e1 f a ρ = ret z := by unfold e1; rw [h1, bnd_ret, h3]; rfl
theorem aC_ret {d : D} {ds : List D} (h1 : a ρ = ret d) (h2 : α ρ = ret ds) : aC a α ρ = ret (d :: ds) := by unfold aC; rw [h1, bnd_ret, h2, bnd_ret]
theorem aN_ret : aN ρ = ret [] := rfl
theorem eB_ret {f : List D → Option D} {ds : List D} {d : D} (h : α ρ = ret ds) (e : f ds = some d) : eB f α ρ = ret d := by unfold eB; rw [h, bnd_ret, e]; rfl
theorem eFn_ret {f : List D → M D} {ds : List D} {d : D} (h : α ρ = ret ds) (hn : noMu ds = true) (e : f ds = ret d) : eFn f α ρ = ret d := by unfold eFn; rw [h, bnd_ret, if_pos hn, e]; rfl
theorem eL_ret {l : DE → M (List D)} {xs : List D} (h : l ρ = ret xs) : eL l ρ = ret (.lst xs) := by unfold eL; rw [h, bnd_ret]
theorem tV_ret {x : Bool} (h : a ρ = ret (.bl x)) : tV a ρ = ret x := by unfold tV; rw [h, bnd_ret]; rfl
/-- x[i] of a value that is no `state` -/
theorem eIx_ret {x y z : D} (h1 : a ρ = ret x) (h2 : b ρ = ret y) (h3 : ∀ S, dIx S x y = some z) : eIx a b ρ = ret z := by
  unfold eIx; rw [h1, bnd_ret, h2, bnd_ret]; funext S; rw [h3]; rfl
end
/-! ### comprehensions, loops -/
theorem lcD_map {γ : D → DE → Option DE} {τ : DE → M Bool} {φ : DE → M D} {ρ : DE} (f : D → D) : ∀ xs : List D,
    (∀ x ∈ xs, ∃ ρ1, γ x ρ = some ρ1 ∧ τ ρ1 = ret true ∧ φ ρ1 = ret (f x) ∧ dat (f x) = true) → lcD γ τ φ ρ xs = ret (xs.map f)
  | [], _ => rfl
  | x :: xs, h => by
    obtain ⟨ρ1, h1, h2, h3, h4⟩ := h x List.mem_cons_self
    unfold lcD
    rw [h1, bnd_some, h2, nox_ret, bnd_ret, if_pos rfl, h3, nox_ret, bnd_ret, if_pos h4, lcD_map f xs fun y hy => h y (List.mem_cons_of_mem _ hy), bnd_ret]
    rfl
theorem lLc_map {it : DE → M (List D)} {γ : D → DE → Option DE} {φ : DE → M D} {vs : List Nat} {ρ : DE} {xs : List D} (f : D → D) (hi : it ρ = ret xs) (hl : xs.length ≤ 100000)
    (h : ∀ x ∈ xs, ∃ ρ1, γ x (wipeD ρ vs) = some ρ1 ∧ φ ρ1 = ret (f x) ∧ dat (f x) = true) : lLc it γ tY φ vs ρ = ret (xs.map f) := by
  unfold lLc
  rw [hi, bnd_ret, if_pos hl]
  exact lcD_map f xs fun x hx => by
    obtain ⟨ρ1, h1, h2, h3⟩ := h x hx
    exact ⟨ρ1, h1, rfl, h2, h3⟩
/-- over a range from 0 -/
theorem lLc_r1 {a : DE → M D} {j : Nat} {φ : DE → M D} {vs : List Nat} {ρ : DE} {n : Nat} (f : Nat → D) (ha : a ρ = ret (.int n)) (hn : n ≤ 100000)
    (h : ∀ i : Nat, i < n → φ ((wipeD ρ vs).set j (some (.int i))) = ret (f i) ∧ dat (f i) = true) : lLc (iR1 a) (gN j) tY φ vs ρ = ret ((List.range n).map f) := by
  have e : iR1 a ρ = ret (rngD 0 n) := by
    unfold iR1; rw [ha, bnd_ret]
    have : smallI (n : Int) = true := by unfold smallI; simp; omega
    simp only [this]; rfl
  have er : rngD 0 (n : Int) = (List.range n).map fun i => D.int (i : Nat) := by
    unfold rngD; simp
  rw [er] at e
  unfold lLc
  rw [e, bnd_ret, if_pos (by simpa using hn)]
  have := lcD_map (γ := gN j) (τ := tY) (φ := φ) (ρ := wipeD ρ vs) (fun d => match d with | .int i => f i.toNat | _ => .non) ((List.range n).map fun i => D.int (i : Nat)) (fun x hx => by
    obtain ⟨i, hi, rfl⟩ := List.mem_map.mp hx
    obtain ⟨h1, h2⟩ := h i (List.mem_range.mp hi)
    exact ⟨_, rfl, rfl, by simpa using h1, by simpa using h2⟩)
  rw [this, List.map_map]
  congr 1
theorem iSq_ret {a : DE → M D} {ρ : DE} {d : D} {xs : List D} (h : a ρ = ret d) (hd : d = .lst xs ∨ d = .tup xs ∨ d = .scr xs) : iSq a ρ = ret xs := by
  unfold iSq; rw [h, bnd_ret]
  rcases hd with rfl | rfl | rfl <;> rfl
theorem iR1_ret {a : DE → M D} {ρ : DE} {n : Nat} (h : a ρ = ret (.int n)) (hn : n ≤ 100000) : iR1 a ρ = ret ((List.range n).map fun i => D.int (i : Nat)) := by
  unfold iR1; rw [h, bnd_ret]
  have : smallI (n : Int) = true := by unfold smallI; simp; omega
  simp only [this]
  show ret (rngD 0 n) = _
  unfold rngD; simp
/-- a loop whose turns change the names as step says, while I holds -/
theorem forD_fold {γ : D → DE → Option DE} {b : DS} (step : DE → D → DE) (I : Nat → DE → Prop) : ∀ (xs : List D) (k : Nat) (ρ : DE), I k ρ →
    (∀ (i : Nat) (x : D) (ρ : DE), xs[i]? = some x → I (k + i) ρ → (∃ ρ1, γ x ρ = some ρ1 ∧ b ρ1 = ret (.nx (step ρ x))) ∧ I (k + i + 1) (step ρ x)) →
    forD γ b xs ρ = ret (.nx (xs.foldl step ρ)) ∧ I (k + xs.length) (xs.foldl step ρ)
  | [], k, ρ, h0, _ => ⟨rfl, h0⟩
  | x :: xs, k, ρ, h0, h => by
    obtain ⟨⟨ρ1, h1, h2⟩, h3⟩ := h 0 x ρ rfl h0
    have ih := forD_fold step I xs (k + 1) (step ρ x) h3 fun i y ρ' hy hI => by
      have := h (i + 1) y ρ' (by simpa using hy) (by rw [show k + (i + 1) = k + 1 + i by omega]; exact hI)
      rw [show k + (i + 1) = k + 1 + i by omega] at this; exact this
    refine ⟨?_, ?_⟩
    · show bnd (opt (γ x ρ)) _ = _
      rw [h1, bnd_some, h2, bnd_ret]
      exact ih.1
    · rw [List.length_cons, show k + (xs.length + 1) = k + 1 + xs.length by omega]; exact ih.2
theorem sFor_ret {it : DE → M (List D)} {γ : D → DE → Option DE} {b : DS} {ρ ρ' : DE} {xs : List D} (h : it ρ = ret xs) (hl : xs.length ≤ 100000) (hf : forD γ b xs ρ = ret (.nx ρ')) : sFor it γ b ρ = ret (.nx ρ') := by
  unfold sFor; rw [h, bnd_ret, if_pos hl]; exact hf
/-- with the state: a comprehension whose elements have what P says -/
theorem lcD_wp {γ : D → DE → Option DE} {φ : DE → M D} {ρ : DE} (I : List D → Prop) (P : D → Prop) : ∀ (xs : List D) (S : List D), I S →
    (∀ x ∈ xs, ∀ S, I S → ∃ ρ1, γ x ρ = some ρ1 ∧ wp (φ ρ1) S fun y S' => I S' ∧ P y ∧ dat y = true) → wp (lcD γ tY φ ρ xs) S fun ys S' => I S' ∧ ys.length = xs.length ∧ ∀ y ∈ ys, P y
  | [], S, h0, _ => ⟨[], S, rfl, h0, rfl, fun y h => by cases h⟩
  | x :: xs, S, h0, h => by
    obtain ⟨ρ1, h1, h2⟩ := h x List.mem_cons_self S h0
    unfold lcD
    rw [h1, bnd_some]
    show wp (bnd (nox (ret true)) _) S _
    rw [nox_ret, bnd_ret, if_pos rfl]
    refine (h2.nox).step fun y S1 ⟨i1, p1, d1⟩ => ?_
    rw [if_pos d1]
    refine (lcD_wp I P xs S1 i1 fun z hz => h z (List.mem_cons_of_mem _ hz)).step fun ys S2 ⟨i2, l2, p2⟩ => ?_
    exact wp.ret ⟨i2, by rw [List.length_cons, List.length_cons, l2], fun z hz => by
      rcases List.mem_cons.mp hz with e | e
      · rw [e]; exact p1
      · exact p2 z e⟩
/-! ### rows of integers -/
def row (xs : List Int) : D := .tup (xs.map D.int)
theorem intsOf_map (xs : List Int) : intsOf (xs.map D.int) = some xs := by
  induction xs with
  | nil => rfl
  | cons x xs ih => rw [List.map_cons]; unfold intsOf; rw [ih]; rfl
theorem dSum_map (xs : List Int) : dSum (.lst (xs.map D.int)) = some (.int xs.sum) := by
  show (intsOf (xs.map D.int)).map (fun is => D.int is.sum) = _
  rw [intsOf_map]; rfl
theorem ixN_nat {n j : Nat} (hj : j < n) : ixN n (j : Int) = some j := by
  unfold ixN; rw [if_pos (by omega), if_pos (by omega)]; simp
theorem atI_nat' {α : Type} {xs : List α} {j : Nat} {v : α} (h : xs[j]? = some v) : atI xs (j : Int) = some v := by
  unfold atI
  rw [ixN_nat (List.getElem?_eq_some_iff.mp h).1]; exact h
theorem dIx_tup {S : List D} {xs : List D} {j : Nat} {v : D} (h : xs[j]? = some v) : dIx S (.tup xs) (.int j) = some v := atI_nat' h
theorem dIx_lst {S : List D} {xs : List D} {j : Nat} {v : D} (h : xs[j]? = some v) : dIx S (.lst xs) (.int j) = some v := atI_nat' h
theorem getD_map {xs : List Int} {j : Nat} (h : j < xs.length) : (xs.map D.int)[j]? = some (.int (xs.getD j 0)) := by
  rw [List.getElem?_map, List.getD_eq_getElem?_getD, List.getElem?_eq_getElem h]; rfl
theorem dIx_row {S : List D} {xs : List Int} {j : Nat} (h : j < xs.length) : dIx S (row xs) (.int j) = some (.int (xs.getD j 0)) := dIx_tup (getD_map h)
/-- of less than 400,000 bits -/
def sm (z : Int) : Prop := z.natAbs.log2 < 400000
theorem mulOk_sm {a b : Int} (ha : sm a) (hb : sm b) : mulOk a b = true := by
  unfold sm at ha hb
  unfold mulOk
  rw [Bool.or_eq_true]
  exact .inl (decide_eq_true (by omega))
theorem sm_of {z : Int} {n : Nat} (h : z.natAbs < 2 ^ n) (hn : n ≤ 400000) : sm z := by
  unfold sm
  by_cases h0 : z.natAbs = 0
  · rw [h0]; decide
  · have := (Nat.log2_lt h0).mpr h
    omega
theorem sm_small {z : Int} {k : Int} (h1 : -k ≤ z) (h2 : z ≤ k) (hk : k.toNat < 2 ^ 1000) : sm z := sm_of (n := 1000) (by omega) (by decide)
/-! ### stepping -/
section
variable {ρ : DE} {S : List D} {P : D → List D → Prop} {a b : DE → M D} {α : DE → M (List D)} {τ υ : DE → M Bool} {s t : DS}
theorem wp_V {i : Nat} {d : D} (h : ρ[i]? = some (some d)) (k : P d S) : wp (eV i ρ) S P := wp.of (eV_at h) k
theorem wp_C {d : D} (k : P d S) : wp (eC d ρ) S P := wp.ret k
theorem wp_1 {f : D → Option D} (h : wp (a ρ) S fun x S1 => ∃ z, f x = some z ∧ P z S1) : wp (e1 f a ρ) S P := wp.step h fun x S1 ⟨z, e, k⟩ => wp.ok (by rw [e]; rfl) k
theorem wp_2 {f : D → D → Option D} (h : wp (a ρ) S fun x S1 => wp (b ρ) S1 fun y S2 => ∃ z, f x y = some z ∧ P z S2) : wp (e2 f a b ρ) S P :=
  wp.step h fun x S1 h => wp.step h fun y S2 ⟨z, e, k⟩ => wp.ok (by rw [e]; rfl) k
theorem wp_I (h : wp (a ρ) S fun x S1 => wp (b ρ) S1 fun y S2 => ∃ z, dIx S2 x y = some z ∧ P z S2) : wp (eIx a b ρ) S P :=
  wp.step h fun x S1 h => wp.step h fun y S2 ⟨z, e, k⟩ => ⟨z, S2, by (show opt (dIx S2 x y) S2 = _); rw [e]; rfl, k⟩
theorem wp_N {Q : List D → List D → Prop} (k : Q [] S) : wp (aN ρ) S Q := wp.ret k
theorem wp_A {Q : List D → List D → Prop} (h : wp (a ρ) S fun x S1 => wp (α ρ) S1 fun xs S2 => Q (x :: xs) S2) : wp (aC a α ρ) S Q :=
  wp.step h fun x S1 h => wp.step h fun xs S2 k => wp.ret k
theorem wp_B {f : List D → Option D} (h : wp (α ρ) S fun xs S1 => ∃ z, f xs = some z ∧ P z S1) : wp (eB f α ρ) S P := wp.step h fun x S1 ⟨z, e, k⟩ => wp.ok (by rw [e]; rfl) k
theorem wp_F {f : List D → M D} (h : wp (α ρ) S fun xs S1 => noMu xs = true ∧ wp (f xs) S1 P) : wp (eFn f α ρ) S P := wp.step h fun x S1 ⟨e, k⟩ => by rw [if_pos e]; exact k.nox
theorem wp_FL {f : List D → M (List D)} {Q : List D → List D → Prop} (h : wp (α ρ) S fun xs S1 => noMu xs = true ∧ wp (f xs) S1 Q) : wp (lFn f α ρ) S Q := wp.step h fun x S1 ⟨e, k⟩ => by rw [if_pos e]; exact k.nox
theorem wp_T (h : wp (α ρ) S fun xs S1 => allDat xs = true ∧ xs.length ≤ big ∧ P (.tup xs) S1) : wp (eTup α ρ) S P := wp.step h fun x S1 ⟨e, l, k⟩ => by
  rw [if_pos (by rw [e, decide_eq_true l]; rfl)]; exact wp.ret k
theorem wp_X {c : Str} (h : wp (a ρ) S fun _ S1 => P (.exn c) S1) : wp (eExn c a ρ) S P := wp.step h fun x S1 k => wp.ret k
theorem wp_L {l : DE → M (List D)} (h : wp (l ρ) S fun xs S1 => P (.lst xs) S1) : wp (eL l ρ) S P := wp.step h fun x S1 k => wp.ret k
theorem wp_lL {Q : List D → List D → Prop} (h : wp (α ρ) S fun xs S1 => allDat xs = true ∧ xs.length ≤ big ∧ Q xs S1) : wp (lLst α ρ) S Q := wp.step h fun x S1 ⟨e, l, k⟩ => by
  rw [if_pos (by rw [e, decide_eq_true l]; rfl)]; exact wp.ret k
theorem wp_tV {Q : Bool → List D → Prop} (h : wp (a ρ) S fun x S1 => ∃ z, x = .bl z ∧ Q z S1) : wp (tV a ρ) S Q := wp.step h fun x S1 ⟨z, e, k⟩ => by rw [e]; exact wp.ret k
theorem wp_tT {Q : Bool → List D → Prop} (h : wp (a ρ) S fun x S1 => ∃ z, dTru x = some z ∧ Q z S1) : wp (tT a ρ) S Q := wp.step h fun x S1 ⟨z, e, k⟩ => wp.ok (by rw [e]; rfl) k
theorem wp_tNo {Q : Bool → List D → Prop} (h : wp (τ ρ) S fun x S1 => Q (!x) S1) : wp (tNo τ ρ) S Q := wp.step h fun x S1 k => wp.ret k
theorem wp_tAn {Q : Bool → List D → Prop} (h : wp (τ ρ) S fun x S1 => (x = true → wp (υ ρ) S1 Q) ∧ (x = false → Q false S1)) : wp (tAn τ υ ρ) S Q := wp.step h fun x S1 k => by
  cases x with
  | true => exact k.1 rfl
  | false => exact wp.ret (k.2 rfl)
theorem wp_tOr {Q : Bool → List D → Prop} (h : wp (τ ρ) S fun x S1 => (x = false → wp (υ ρ) S1 Q) ∧ (x = true → Q true S1)) : wp (tOr' τ υ ρ) S Q := wp.step h fun x S1 k => by
  cases x with
  | false => exact k.1 rfl
  | true => exact wp.ret (k.2 rfl)
theorem wp_eAn (h : wp (a ρ) S fun x S1 => ∃ z, x = .bl z ∧ (z = true → wp (b ρ) S1 P) ∧ (z = false → P (.bl false) S1)) : wp (eAn a b ρ) S P := wp.step h fun x S1 ⟨z, e, k1, k2⟩ => by
  subst e
  cases z with
  | true => exact k1 rfl
  | false => exact wp.ret (k2 rfl)
theorem wp_eOr (h : wp (a ρ) S fun x S1 => ∃ z, x = .bl z ∧ (z = false → wp (b ρ) S1 P) ∧ (z = true → P (.bl true) S1)) : wp (eOr a b ρ) S P := wp.step h fun x S1 ⟨z, e, k1, k2⟩ => by
  subst e
  cases z with
  | false => exact k1 rfl
  | true => exact wp.ret (k2 rfl)
theorem wp_eNo (h : wp (a ρ) S fun x S1 => ∃ z, x = .bl z ∧ P (.bl (!z)) S1) : wp (eNo a ρ) S P := wp.step h fun x S1 ⟨z, e, k⟩ => by rw [e]; exact wp.ret k
theorem wp_If (h : wp (τ ρ) S fun x S1 => (x = true → wp (a ρ) S1 P) ∧ (x = false → wp (b ρ) S1 P)) : wp (eIf τ a b ρ) S P := wp.step h fun x S1 k => by
  cases x with
  | true => exact k.1 rfl
  | false => exact k.2 rfl
variable {Z : Fl → List D → Prop}
theorem wp_Seq (h : wp (s ρ) S fun f S1 => match f with
    | .nx ρ' => wp (t ρ') S1 Z
    | f => Z f S1) : wp (sSeq s t ρ) S Z := wp.step h fun f S1 k => by
  cases f <;> first | exact k | exact wp.ret k
theorem wp_Skip (k : Z (.nx ρ) S) : wp (sSkip ρ) S Z := wp.ret k
theorem wp_sA {i : Nat} (h : wp (a ρ) S fun d S1 => dat d = true ∧ Z (.nx (ρ.set i (some d))) S1) : wp (sA i a ρ) S Z := wp.step h fun d S1 ⟨e, k⟩ => by rw [if_pos e]; exact wp.ret k
theorem wp_sM {i : Nat} {l : DE → M (List D)} (h : wp (l ρ) S fun d S1 => Z (.nx (ρ.set i (some (.mu d)))) S1) : wp (sM i l ρ) S Z := wp.step h fun d S1 k => wp.ret k
theorem wp_sR (h : wp (a ρ) S fun d S1 => dat d = true ∧ Z (.rt d) S1) : wp (sR a ρ) S Z := wp.step h fun d S1 ⟨e, k⟩ => by rw [if_pos e]; exact wp.ret k
theorem wp_sRL {l : DE → M (List D)} (h : wp (l ρ) S fun d S1 => Z (.rl d) S1) : wp (sRL l ρ) S Z := wp.step h fun d S1 k => wp.ret k
theorem wp_sE (h : wp (a ρ) S fun d S1 => Z (.nx ρ) S1) : wp (sE a ρ) S Z := wp.step h fun d S1 k => wp.ret k
theorem wp_sIf (h : wp (τ ρ) S fun x S1 => (x = true → wp (s ρ) S1 Z) ∧ (x = false → wp (t ρ) S1 Z)) : wp (sIf τ s t ρ) S Z := wp.step h fun x S1 k => by
  cases x with
  | true => exact k.1 rfl
  | false => exact k.2 rfl
theorem wp_sP {i j : Nat} (h : wp (α ρ) S fun vs S1 => ∃ v w, vs = [v, w] ∧ dat v = true ∧ dat w = true ∧ Z (.nx ((ρ.set i (some v)).set j (some w))) S1) : wp (sP i j α ρ) S Z := wp.step h fun vs S1 ⟨v, w, e, h1, h2, k⟩ => by
  subst e
  show wp (if dat v && dat w then _ else _) _ _
  rw [if_pos (by rw [h1, h2]; rfl)]; exact wp.ret k
theorem wp_sT {is : List Nat} (h : wp (a ρ) S fun d S1 => ∃ ρ', gT is d ρ = some ρ' ∧ Z (.nx ρ') S1) : wp (sT is a ρ) S Z := wp.step h fun d S1 ⟨ρ', e, k⟩ => by rw [e]; exact wp.ret k
theorem wp_Ap {i : Nat} {xs : List D} (hi : ρ[i]? = some (some (.mu xs))) (h : wp (a ρ) S fun d S1 => dat d = true ∧ xs.length < 100000 ∧ Z (.nx (ρ.set i (some (.mu (xs ++ [d]))))) S1) : wp (sAp i a ρ) S Z := by
  unfold sAp; rw [hi]
  exact wp.step h fun d S1 ⟨h1, h2, k⟩ => by rw [if_pos (by rw [h1, decide_eq_true h2]; rfl)]; exact wp.ret k
/-- state[k] = e -/
theorem wp_SS {i : Nat} {c : DE → M D} (hi : ρ[i]? = some (some .st)) (h : wp (a ρ) S fun d S1 => wp (c ρ) S1 fun y S2 => ∃ (z : Int) (j : Nat), y = .int z ∧ dat d = true ∧ ixN S2.length z = some j ∧ Z (.nx ρ) (S2.set j d)) : wp (sSt i c a ρ) S Z := by
  refine wp.step h fun d S1 h => ?_
  rw [hi]
  refine wp.step h fun y S2 ⟨z, j, e, h1, h2, k⟩ => ?_
  subst e
  show wp (if dat d = true then _ else _) _ _
  rw [if_pos h1]
  exact ⟨_, _, by dsimp only; rw [h2], k⟩
theorem wp_SM {i : Nat} {c : DE → M D} {xs : List D} (hi : ρ[i]? = some (some (.mu xs))) (h : wp (a ρ) S fun d S1 => wp (c ρ) S1 fun y S2 => ∃ (z : Int) (j : Nat), y = .int z ∧ dat d = true ∧ ixN xs.length z = some j ∧ Z (.nx (ρ.set i (some (.mu (xs.set j d))))) S2) : wp (sSt i c a ρ) S Z := by
  refine wp.step h fun d S1 h => ?_
  rw [hi]
  refine wp.step h fun y S2 ⟨z, j, e, h1, h2, k⟩ => ?_
  subst e
  show wp (if dat d = true then _ else _) _ _
  rw [if_pos h1, h2]
  exact wp.ret k
theorem wp_New {i : Nat} {l : DE → M (List D)} (h : wp (l ρ) S fun xs S1 => S1 = [.st] ∧ Z (.nx (ρ.set i (some .st))) xs) : wp (sNew i l ρ) S Z := wp.step h fun xs S1 ⟨e, k⟩ => by
  subst e; exact ⟨_, _, rfl, k⟩
theorem wp_For {it : DE → M (List D)} {γ : D → DE → Option DE} (h : wp (it ρ) S fun xs S1 => xs.length ≤ 100000 ∧ wp (forD γ s xs ρ) S1 Z) : wp (sFor it γ s ρ) S Z := wp.step h fun xs S1 ⟨e, k⟩ => by rw [if_pos e]; exact k
/-- a loop by its invariant over (turn, names, state); a turn may hand back -/
theorem wp_forD {γ : D → DE → Option DE} (I : Nat → DE → List D → Prop) : ∀ (xs : List D) (k : Nat) (ρ : DE) (S : List D), I k ρ S →
    (∀ (i : Nat) (x : D) (ρ : DE) (S : List D), xs[i]? = some x → I (k + i) ρ S → ∃ ρ1, γ x ρ = some ρ1 ∧ wp (s ρ1) S fun f S' => match f with
      | .nx ρ' => I (k + i + 1) ρ' S'
      | .ct ρ' => I (k + i + 1) ρ' S'
      | .bk ρ' => Z (.nx ρ') S'
      | f => Z f S') → (∀ ρ S, I (k + xs.length) ρ S → Z (.nx ρ) S) → wp (forD γ s xs ρ) S Z
  | [], k, ρ, S, h0, _, hd => wp.ret (hd ρ S h0)
  | x :: xs, k, ρ, S, h0, h, hd => by
    obtain ⟨ρ1, h1, h2⟩ := h 0 x ρ S rfl h0
    show wp (bnd (opt (γ x ρ)) _) S Z
    rw [h1, bnd_some]
    have hh : ∀ (i : Nat) (y : D) (ρ : DE) (S : List D), xs[i]? = some y → I (k + 1 + i) ρ S → ∃ ρ1, γ y ρ = some ρ1 ∧ wp (s ρ1) S fun f S' => match f with
      | .nx ρ' => I (k + 1 + i + 1) ρ' S'
      | .ct ρ' => I (k + 1 + i + 1) ρ' S'
      | .bk ρ' => Z (.nx ρ') S'
      | f => Z f S' := fun i y ρ S hy hI => by
        have := h (i + 1) y ρ S (by simpa using hy) (by rw [show k + (i + 1) = k + 1 + i by omega]; exact hI)
        rw [show k + (i + 1) = k + 1 + i by omega] at this; exact this
    have hd' : ∀ ρ S, I (k + 1 + xs.length) ρ S → Z (.nx ρ) S := fun ρ S hI => hd ρ S (by rw [List.length_cons, show k + (xs.length + 1) = k + 1 + xs.length by omega]; exact hI)
    refine wp.step h2 fun f S1 k2 => ?_
    cases f with
    | nx ρ' => exact wp_forD I xs (k + 1) ρ' S1 k2 hh hd'
    | ct ρ' => exact wp_forD I xs (k + 1) ρ' S1 k2 hh hd'
    | bk ρ' => exact wp.ret k2
    | rt d => exact wp.ret k2
    | rl d => exact wp.ret k2
theorem wp_Lc {it : DE → M (List D)} {γ : D → DE → Option DE} {φ : DE → M D} {vs : List Nat} {Q : List D → List D → Prop} (I : List D → Prop) (p : D → Prop) (h : wp (it ρ) S fun xs S1 => xs.length ≤ 100000 ∧ I S1 ∧
    (∀ x ∈ xs, ∀ S, I S → ∃ ρ1, γ x (wipeD ρ vs) = some ρ1 ∧ wp (φ ρ1) S fun y S' => I S' ∧ p y ∧ dat y = true) ∧ ∀ ys S', I S' → ys.length = xs.length → (∀ y ∈ ys, p y) → Q ys S') : wp (lLc it γ tY φ vs ρ) S Q :=
  wp.step h fun xs S1 ⟨hl, h0, ht, k⟩ => by
    rw [if_pos hl]
    exact (lcD_wp I p xs S1 h0 ht).imp fun ys S' ⟨h1, h2, h3⟩ => k ys S' h1 h2 h3
end
theorem wp_R1 {ρ : DE} {S : List D} {a : DE → M D} {Q : List D → List D → Prop} {n : Nat} (h : wp (a ρ) S fun x S1 => x = .int n ∧ n ≤ 100000 ∧ Q ((List.range n).map fun i => D.int (i : Nat)) S1) : wp (iR1 a ρ) S Q := by
  obtain ⟨x, S1, e, rfl, hn, k⟩ := h
  have := iR1_ret (a := fun _ => ret (.int n)) (ρ := ρ) rfl hn
  refine ⟨_, S1, ?_, k⟩
  unfold iR1 at this ⊢
  rw [bnd_ok e]
  exact congrFun this S1
theorem ret_of_wp {α : Type} {m : M α} {d : α} (h : ∀ S, wp m S fun a S' => a = d ∧ S' = S) : m = ret d := by
  funext S
  obtain ⟨a, S', e, rfl, rfl⟩ := h S
  exact e
/-! ### while -/
theorem whN_more {t : DE → M Bool} {b : DS} : ∀ (n : Nat) (ρ : DE) (S : List D), whN t b n ρ S ≠ .bad → whN t b (n + 1) ρ S = whN t b n ρ S
  | 0, _, _, h => absurd rfl h
  | n + 1, ρ, S, h => by
    unfold whN at h ⊢
    unfold bnd at h ⊢
    cases e : t ρ S with
    | bad => rfl
    | exc c fs S1 => rfl
    | ok x S1 =>
      rw [e] at h
      cases x with
      | false => rfl
      | true =>
        dsimp only [if_pos] at h ⊢
        rw [if_pos rfl] at h
        rw [if_pos rfl, if_pos rfl]
        cases e2 : b ρ S1 with
        | bad => rfl
        | exc c fs S2 => rfl
        | ok f S2 =>
          rw [e2] at h
          cases f <;> first | rfl | exact whN_more n _ _ h
theorem whN_same {t : DE → M Bool} {b : DS} {ρ : DE} {S : List D} {m : Nat} (h : whN t b m ρ S ≠ .bad) : ∀ k, whN t b (m + k) ρ S = whN t b m ρ S
  | 0 => rfl
  | k + 1 => by
    rw [← Nat.add_assoc, whN_more _ _ _ (by rw [whN_same h k]; exact h), whN_same h k]
theorem sWh_of {t : DE → M Bool} {b : DS} {ρ : DE} {S : List D} {m : Nat} (h : whN t b m ρ S ≠ .bad) : sWh t b ρ S = whN t b m ρ S := by
  have hx : ∃ n, whN t b n ρ S ≠ .bad := ⟨m, h⟩
  unfold sWh
  rw [dif_pos hx]
  have hc := Classical.choose_spec hx
  rcases Nat.le_total m (Classical.choose hx) with q | q
  · obtain ⟨k, e⟩ := Nat.exists_eq_add_of_le q
    rw [e]; exact whN_same h k
  · obtain ⟨k, e⟩ := Nat.exists_eq_add_of_le q
    rw [e]; exact (whN_same hc k).symm
/-- a while loop by its invariant, with what goes down -/
theorem wp_Wh {t : DE → M Bool} {b : DS} {Z : Fl → List D → Prop} (I : Nat → DE → List D → Prop) {n : Nat} {ρ : DE} {S : List D} (h0 : I n ρ S)
    (h : ∀ n ρ S, I n ρ S → wp (t ρ) S fun x S1 => (x = true → wp (b ρ) S1 fun f S2 => match f with
      | .nx ρ' => ∃ m, m < n ∧ I m ρ' S2
      | .ct ρ' => ∃ m, m < n ∧ I m ρ' S2
      | .bk ρ' => Z (.nx ρ') S2
      | f => Z f S2) ∧ (x = false → Z (.nx ρ) S1)) : wp (sWh t b ρ) S Z := by
  have key : ∀ n ρ S, I n ρ S → ∃ m f S', whN t b m ρ S = .ok f S' ∧ Z f S' := by
    intro n
    induction n using Nat.strongRecOn with
    | _ n ih =>
      intro ρ S hI
      obtain ⟨x, S1, e, k1, k2⟩ := h n ρ S hI
      cases x with
      | false => exact ⟨1, .nx ρ, S1, by unfold whN bnd; rw [e]; rfl, k2 rfl⟩
      | true =>
        obtain ⟨f, S2, e2, k⟩ := k1 rfl
        cases f with
        | nx ρ' =>
          obtain ⟨m, hm, hI'⟩ := k
          obtain ⟨m', f, S', e3, z⟩ := ih m hm ρ' S2 hI'
          exact ⟨m' + 1, f, S', by unfold whN bnd; rw [e]; dsimp only; rw [if_pos rfl, e2]; exact e3, z⟩
        | ct ρ' =>
          obtain ⟨m, hm, hI'⟩ := k
          obtain ⟨m', f, S', e3, z⟩ := ih m hm ρ' S2 hI'
          exact ⟨m' + 1, f, S', by unfold whN bnd; rw [e]; dsimp only; rw [if_pos rfl, e2]; exact e3, z⟩
        | bk ρ' => exact ⟨1, _, S2, by unfold whN bnd; rw [e]; dsimp only; rw [if_pos rfl, e2]; rfl, k⟩
        | rt d => exact ⟨1, _, S2, by unfold whN bnd; rw [e]; dsimp only; rw [if_pos rfl, e2]; rfl, k⟩
        | rl d => exact ⟨1, _, S2, by unfold whN bnd; rw [e]; dsimp only; rw [if_pos rfl, e2]; rfl, k⟩
  obtain ⟨m, f, S', e, z⟩ := key n ρ S h0
  exact ⟨f, S', by rw [sWh_of (m := m) (by rw [e]; exact fun q => nomatch q)]; exact e, z⟩
theorem wp_Fz {i : Nat} {s : DS} {ρ : DE} {S : List D} {Z : Fl → List D → Prop} (h : wp (s (frz i ρ)) S Z) : wp (sFz i s ρ) S Z := h
end DL

namespace K00
open PySem L2 DL
noncomputable section
def b_is_integer : DS := (sR (eAn (eB (f2 dIsi) (aC (eV 0) (aC (eC (.ty "int")) aN))) (eNo (eB (f2 dIsi) (aC (eV 0) (aC (eC (.ty "bool")) aN))))))
def m_is_integer : List D → M D := runP 1 1 b_is_integer
def b_common_divisor : DS := (sSeq (sA 1 (eC (.int 0)))
  (sSeq (sFor (iSq (eV 0)) (gN 2)
  (sSeq (sP 3 4 (aC (eV 1) (aC (eB (f1 dAbs) (aC (eV 2) aN)) aN)))
  (sSeq (sWh (tV (e2 dGt (eV 4) (eC (.int 0))))
  (sP 3 4 (aC (eV 4) (aC (e2 dMod (eV 3) (eV 4)) aN))))
  (sA 1 (eV 3)))))
  (sR (eV 1))))
def m_common_divisor : List D → M D := runP 5 1 b_common_divisor
def b_combination : DS := (sSeq (sP 2 3 (aC (eTup (aC (eV 0) (aC (eC (.int 1)) (aC (eC (.int 0)) aN)))) (aC (eTup (aC (eV 1) (aC (eC (.int 0)) (aC (eC (.int 1)) aN)))) aN)))
  (sSeq (sWh (tV (e2 dNe (eIx (eV 3) (eC (.int 0))) (eC (.int 0))))
  (sSeq (sA 4 (e2 dFdiv (eIx (eV 2) (eC (.int 0))) (eIx (eV 3) (eC (.int 0)))))
  (sSeq (sA 5 (eTup (aC (e2 dSub (eIx (eV 2) (eC (.int 0))) (e2 dMul (eV 4) (eIx (eV 3) (eC (.int 0))))) (aC (e2 dSub (eIx (eV 2) (eC (.int 1))) (e2 dMul (eV 4) (eIx (eV 3) (eC (.int 1))))) (aC (e2 dSub (eIx (eV 2) (eC (.int 2))) (e2 dMul (eV 4) (eIx (eV 3) (eC (.int 2))))) aN)))))
  (sP 2 3 (aC (eV 3) (aC (eV 5) aN))))))
  (sSeq (sIf (tV (e2 dLt (eIx (eV 2) (eC (.int 0))) (eC (.int 0))))
  (sA 2 (eTup (aC (e1 dNeg (eIx (eV 2) (eC (.int 0)))) (aC (e1 dNeg (eIx (eV 2) (eC (.int 1)))) (aC (e1 dNeg (eIx (eV 2) (eC (.int 2)))) aN)))))
  sSkip)
  (sR (eV 2)))))
def m_combination : List D → M D := runP 6 2 b_combination
def b_is_row : DS := (sSeq (sIf (tOr' (tNo (tV (eB (f2 dIsi) (aC (eV 0) (aC (eC (.ty "tuple")) aN))))) (tV (e2 dNe (eB (f1 dLen) (aC (eV 0) aN)) (eV 1))))
  (sR (eC (.bl false)))
  sSkip)
  (sR (eB (f1 dAll) (aC (eL (lLc (iSq (eV 0)) (gN 2) tY (eFn m_is_integer (aC (eV 2) aN)) [2])) aN))))
def m_is_row : List D → M D := runP 3 2 b_is_row
def b_is_matrix : DS := (sSeq (sIf (tOr' (tNo (tV (eB (f2 dIsi) (aC (eV 0) (aC (eC (.ty "tuple")) aN))))) (tV (e2 dNe (eB (f1 dLen) (aC (eV 0) aN)) (eV 1))))
  (sR (eC (.bl false)))
  sSkip)
  (sR (eB (f1 dAll) (aC (eL (lLc (iSq (eV 0)) (gN 3) tY (eFn m_is_row (aC (eV 3) (aC (eV 2) aN))) [3])) aN))))
def m_is_matrix : List D → M D := runP 4 3 b_is_matrix
def b_unit_row : DS := (sR (eB (f1 dTuple) (aC (eL (lLc (iR1 (eV 0)) (gN 2) tY (eB (f1 dInt) (aC (e2 dEq (eV 2) (eV 1)) aN)) [2])) aN)))
def m_unit_row : List D → M D := runP 3 2 b_unit_row
def b_unit_matrix : DS := (sR (eB (f1 dTuple) (aC (eL (lLc (iR1 (eV 0)) (gN 1) tY (eFn m_unit_row (aC (eV 0) (aC (eV 1) aN))) [1])) aN)))
def m_unit_matrix : List D → M D := runP 2 1 b_unit_matrix
def b_zero_matrix : DS := (sR (eB (f1 dTuple) (aC (eL (lLc (iR1 (eV 0)) (gN 2) tY (e2 dMul (eTup (aC (eC (.int 0)) aN)) (eV 1)) [2])) aN)))
def m_zero_matrix : List D → M D := runP 3 2 b_zero_matrix
def b_law_state : DS := (sSeq (sA 1 (eC (.int 0)))
  (sSeq (sA 2 (eC (.int 1)))
  (sSeq (sFor (iSq (eCut oN (oS (eC (.int 63))) (eV 0))) (gN 3)
  (sSeq (sA 1 (e2 dAdd (e2 dMul (eV 1) (eC (.int 1000003))) (eB (f1 dAbs) (aC (eV 3) aN))))
  (sA 2 (e2 dMod (eB (f1 dInt) (aC (e2 dAdd (e2 dMul (eV 2) (eC (.int 48271))) (eV 3)) aN)) (eC (.int 2147483647))))))
  (sRL (lLst (aC (eV 1) (aC (eV 2) aN)))))))
def m_law_state : List D → M (List D) := runLP 4 1 b_law_state
def b_law_take : DS := (sSeq (sIf (tV (e2 dGt (eIx (eV 0) (eC (.int 0))) (eC (.int 0))))
  (sSeq (sA 2 (e2 dMod (eB (f1 dInt) (aC (eIx (eV 0) (eC (.int 0))) aN)) (eV 1)))
  (sSeq (sSt 0 (eC (.int 0)) (e2 dFdiv (eIx (eV 0) (eC (.int 0))) (eV 1)))
  (sR (eV 2))))
  sSkip)
  (sSeq (sSt 0 (eC (.int 1)) (e2 dMod (eB (f1 dInt) (aC (e2 dAdd (e2 dMul (eIx (eV 0) (eC (.int 1))) (eC (.int 48271))) (eC (.int 11))) aN)) (eC (.int 2147483647))))
  (sR (e2 dMod (eB (f1 dInt) (aC (e2 dFdiv (eIx (eV 0) (eC (.int 1))) (eC (.int 7))) aN)) (eV 1)))))
def m_law_take : List D → M D := runP 3 2 b_law_take
def b_law_says : DS := (sR (eAn (eB (f2 dIsi) (aC (eV 0) (aC (eC (.ty "bool")) aN))) (e2 dEq (eV 0) (eV 1))))
def m_law_says : List D → M D := runP 2 2 b_law_says
def b_law_common : DS := (sSeq (sWh (tV (e2 dGt (eV 1) (eC (.int 0))))
  (sP 0 1 (aC (eV 1) (aC (e2 dMod (eB (f1 dInt) (aC (eV 0) aN)) (eV 1)) aN))))
  (sR (eV 0)))
def m_law_common : List D → M D := runP 2 2 b_law_common
def b_law_number : DS := (sSeq (sA 1 (eIx (eL (lLst (aC (eC (.int 1)) (aC (eC (.int 12)) (aC (eC (.int 1000)) (aC (e2 dPow (eC (.int 10)) (eC (.int 12))) (aC (e2 dPow (eC (.int 10)) (eC (.int 25))) aN))))))) (eFn m_law_take (aC (eV 0) (aC (eC (.int 5)) aN)))))
  (sR (e2 dSub (eFn m_law_take (aC (eV 0) (aC (e2 dAdd (e2 dMul (eC (.int 2)) (eV 1)) (eC (.int 1))) aN))) (eV 1))))
def m_law_number : List D → M D := runP 2 1 b_law_number
def b_law_divisor : DS := (sSeq (sA 1 (eC (.int 0)))
  (sSeq (sFor (iSq (eV 0)) (gN 2)
  (sA 1 (eFn m_law_common (aC (eV 1) (aC (eB (f1 dAbs) (aC (eV 2) aN)) aN)))))
  (sR (eV 1))))
def m_law_divisor : List D → M D := runP 3 1 b_law_divisor
def b_law_combined : DS := (sSeq (sA 1 (e2 dAdd (eC (.int 1)) (eFn m_law_take (aC (eV 0) (aC (eC (.int 40)) aN)))))
  (sSeq (sP 2 3 (aC (e2 dMul (eFn m_law_number (aC (eV 0) aN)) (eV 1)) (aC (e2 dMul (eFn m_law_number (aC (eV 0) aN)) (eV 1)) aN)))
  (sSeq (sIf (tV (e2 dEq (eFn m_law_take (aC (eV 0) (aC (eC (.int 5)) aN))) (eC (.int 0))))
  (sA 3 (eIx (eL (lLst (aC (eC (.int 0)) (aC (eV 2) (aC (e1 dNeg (eV 2)) (aC (eC (.int 1)) aN)))))) (eFn m_law_take (aC (eV 0) (aC (eC (.int 4)) aN)))))
  sSkip)
  (sSeq (sA 4 (eFn m_combination (aC (eV 2) (aC (eV 3) aN))))
  (sSeq (sIf (tOr' (tNo (tV (eB (f2 dIsi) (aC (eV 4) (aC (eC (.ty "tuple")) aN))))) (tOr' (tV (e2 dNe (eB (f1 dLen) (aC (eV 4) aN)) (eC (.int 3)))) (tV (e2 dGt (eB (f1 dLen) (aC (eL (lLc (iSq (eV 4)) (gN 5) (tV (e2 dIsN (eFn m_is_integer (aC (eV 5) aN)) (eC (.bl true)))) (eV 5) [5])) aN)) (eC (.int 0))))))
  (sR (eC (.bl false)))
  sSkip)
  (sR (eAn (e2 dEq (eIx (eV 4) (eC (.int 0))) (eFn m_law_divisor (aC (eL (lLst (aC (eV 2) (aC (eV 3) aN)))) aN))) (e2 dEq (e2 dAdd (e2 dMul (eV 2) (eIx (eV 4) (eC (.int 1)))) (e2 dMul (eV 3) (eIx (eV 4) (eC (.int 2))))) (eIx (eV 4) (eC (.int 0)))))))))))
def m_law_combined : List D → M D := runP 6 1 b_law_combined
def b_law_strange : DS := (sSeq (sA 2 (eL (lLst (aC (eC .non) (aC (eC (.bl true)) (aC (eC (.bl false)) (aC (eC (.str "1")) (aC (eC (.str "")) (aC (eTup (aC (eC (.int 1)) aN)) (aC (eL (lLst (aC (eC (.int 1)) aN))) (aC (eTup aN) (aC (eExn "Malformed" (eC (.str "a"))) (aC (eV 1) (aC (e1 dNeg (eV 1)) aN))))))))))))))
  (sSeq (sA 3 (eFn m_law_take (aC (eV 0) (aC (eC (.int 11)) aN))))
  (sR (eTup (aC (eIx (eV 2) (eV 3)) (aC (e2 dGt (eV 3) (eC (.int 8))) aN))))))
def m_law_strange : List D → M D := runP 4 2 b_law_strange
def b_law_rows_hold : DS := (sSeq (sT [1, 2] (eTup (aC (eFn m_law_take (aC (eV 0) (aC (eC (.int 7)) aN))) (aC (eFn m_law_take (aC (eV 0) (aC (eC (.int 7)) aN))) aN))))
  (sSeq (sA 3 (eB (f1 dTuple) (aC (eL (lLc (iR1 (eV 2)) (gN 9) tY (eFn m_law_number (aC (eV 0) aN)) [9])) aN)))
  (sSeq (sIf (tOr' (tV (e2 dIsN (eFn m_is_row (aC (eV 3) (aC (eV 2) aN))) (eC (.bl true)))) (tOr' (tV (e2 dIsN (eFn m_is_row (aC (eL (lOf dList (eV 3))) (aC (eV 2) aN))) (eC (.bl false)))) (tV (e2 dIsN (eFn m_is_row (aC (e2 dAdd (eV 3) (eTup (aC (eC (.int 0)) aN))) (aC (eV 2) aN))) (eC (.bl false))))))
  (sR (eC (.bl false)))
  sSkip)
  (sSeq (sIf (tOr' (tV (e2 dIsN (eFn m_is_row (aC (e2 dMul (eC (.str "1")) (eV 2)) (aC (eV 2) aN))) (eC (.bl false)))) (tOr' (tV (e2 dIsN (eFn m_is_row (aC (eC .non) (aC (eV 2) aN))) (eC (.bl false)))) (tV (e2 dIsN (eFn m_is_row (aC (eV 3) (aC (e2 dAdd (eV 2) (eC (.int 1))) aN))) (eC (.bl false))))))
  (sR (eC (.bl false)))
  sSkip)
  (sSeq (sA 4 (eB (f1 dTuple) (aC (eL (lLc (iR1 (eV 1)) (gN 11) tY (eB (f1 dTuple) (aC (eL (lLc (iR1 (eV 2)) (gN 9) tY (eFn m_law_number (aC (eV 0) aN)) [9])) aN)) [11])) aN)))
  (sSeq (sIf (tOr' (tV (e2 dIsN (eFn m_is_matrix (aC (eV 4) (aC (eV 1) (aC (eV 2) aN)))) (eC (.bl true)))) (tV (e2 dIsN (eFn m_is_matrix (aC (eL (lOf dList (eV 4))) (aC (eV 1) (aC (eV 2) aN)))) (eC (.bl false)))))
  (sR (eC (.bl false)))
  sSkip)
  (sSeq (sIf (tOr' (tV (e2 dIsN (eFn m_is_matrix (aC (eV 4) (aC (e2 dAdd (eV 1) (eC (.int 1))) (aC (eV 2) aN)))) (eC (.bl false)))) (tV (e2 dIsN (eFn m_is_matrix (aC (e2 dAdd (eV 4) (eTup (aC (e2 dMul (eTup (aC (eC (.int 0)) aN)) (e2 dAdd (eV 2) (eC (.int 1)))) aN))) (aC (e2 dAdd (eV 1) (eC (.int 1))) (aC (eV 2) aN)))) (eC (.bl false)))))
  (sR (eC (.bl false)))
  sSkip)
  (sSeq (sIf (tOr' (tV (e2 dIsN (eFn m_is_matrix (aC (e2 dAdd (eV 4) (eTup (aC (e2 dMul (eL (lLst (aC (eC (.int 0)) aN))) (eV 2)) aN))) (aC (e2 dAdd (eV 1) (eC (.int 1))) (aC (eV 2) aN)))) (eC (.bl false)))) (tV (e2 dIsN (eFn m_is_matrix (aC (eC .non) (aC (eV 1) (aC (eV 2) aN)))) (eC (.bl false)))))
  (sR (eC (.bl false)))
  sSkip)
  (sSeq (sIf (tV (e2 dEq (eV 2) (eC (.int 0))))
  (sR (eC (.bl true)))
  sSkip)
  (sSeq (sA 5 (eFn m_law_take (aC (eV 0) (aC (eV 2) aN))))
  (sSeq (sT [6, 7] (eFn m_law_strange (aC (eV 0) (aC (eC (.int 7)) aN))))
  (sSeq (sA 8 (e2 dAdd (e2 dAdd (eCut oN (oS (eV 5)) (eV 3)) (eTup (aC (eV 6) aN))) (eCut (oS (e2 dAdd (eV 5) (eC (.int 1)))) oN (eV 3))))
  (sSeq (sIf (tNo (tV (eFn m_law_says (aC (eFn m_is_row (aC (eV 8) (aC (eV 2) aN))) (aC (eV 7) aN)))))
  (sR (eC (.bl false)))
  sSkip)
  (sSeq (sA 9 (eFn m_law_take (aC (eV 0) (aC (e2 dAdd (eV 1) (eC (.int 1))) aN))))
  (sSeq (sA 10 (e2 dAdd (e2 dAdd (eCut oN (oS (eV 9)) (eV 4)) (eTup (aC (eV 8) aN))) (eCut (oS (eV 9)) oN (eV 4))))
  (sR (eAn (eFn m_law_says (aC (eFn m_is_matrix (aC (eV 10) (aC (e2 dAdd (eV 1) (eC (.int 1))) (aC (eV 2) aN)))) (aC (eV 7) aN))) (e2 dIs (eFn m_is_matrix (aC (eV 10) (aC (eV 1) (aC (eV 2) aN)))) (eC (.bl false))))))))))))))))))))
def m_law_rows_hold : List D → M D := runP 12 1 b_law_rows_hold
def b_law_units_hold : DS := (sSeq (sT [1, 2] (eTup (aC (eFn m_law_take (aC (eV 0) (aC (eC (.int 13)) aN))) (aC (eFn m_law_take (aC (eV 0) (aC (eC (.int 13)) aN))) aN))))
  (sSeq (sIf (tV (e2 dNe (eFn m_unit_matrix (aC (eV 1) aN)) (eB (f1 dTuple) (aC (eL (lLc (iR1 (eV 1)) (gN 3) tY (eB (f1 dTuple) (aC (eL (lLc (iR1 (eV 1)) (gN 4) tY (eB (f1 dInt) (aC (e2 dEq (eV 3) (eV 4)) aN)) [4])) aN)) [3])) aN))))
  (sR (eC (.bl false)))
  sSkip)
  (sSeq (sIf (tV (e2 dNe (eFn m_zero_matrix (aC (eV 1) (aC (eV 2) aN))) (eB (f1 dTuple) (aC (eL (lLc (iR1 (eV 1)) (gN 3) tY (eB (f1 dTuple) (aC (eL (lLc (iR1 (eV 2)) (gN 4) tY (eC (.int 0)) [4])) aN)) [3])) aN))))
  (sR (eC (.bl false)))
  sSkip)
  (sSeq (sIf (tV (e2 dEq (eV 1) (eC (.int 0))))
  (sR (eC (.bl true)))
  sSkip)
  (sSeq (sA 3 (eFn m_law_take (aC (eV 0) (aC (eV 1) aN))))
  (sR (e2 dEq (eFn m_unit_row (aC (eV 1) (aC (eV 3) aN))) (eB (f1 dTuple) (aC (eL (lLc (iR1 (eV 1)) (gN 4) tY (eB (f1 dInt) (aC (e2 dEq (eV 3) (eV 4)) aN)) [4])) aN)))))))))
def m_law_units_hold : List D → M D := runP 5 1 b_law_units_hold
def b_law : DS := (sSeq (sNew 1 (lFn m_law_state (aC (eV 0) aN)))
  (sSeq (sT [2, 3] (eFn m_law_strange (aC (eV 1) (aC (eFn m_law_number (aC (eV 1) aN)) aN))))
  (sSeq (sIf (tNo (tV (eFn m_law_says (aC (eFn m_is_integer (aC (eV 2) aN)) (aC (eV 3) aN)))))
  (sR (eC (.bl false)))
  sSkip)
  (sSeq (sA 4 (eL (lLc (iR1 (eFn m_law_take (aC (eV 1) (aC (eC (.int 7)) aN)))) (gN 7) tY (eFn m_law_number (aC (eV 1) aN)) [7])))
  (sSeq (sA 5 (e2 dAdd (eC (.int 1)) (eFn m_law_take (aC (eV 1) (aC (eC (.int 1000)) aN)))))
  (sSeq (sIf (tV (e2 dEq (eFn m_law_take (aC (eV 1) (aC (eC (.int 2)) aN))) (eC (.int 0))))
  (sA 4 (eL (lLc (iSq (eV 4)) (gN 8) tY (e2 dMul (eV 5) (eV 8)) [8])))
  sSkip)
  (sSeq (sA 6 (eFn m_law_divisor (aC (eV 4) aN)))
  (sSeq (sIf (tOr' (tV (e2 dNe (eFn m_common_divisor (aC (eV 4) aN)) (eV 6))) (tV (e2 dNe (eFn m_common_divisor (aC (eB (f1 dTuple) (aC (eV 4) aN)) aN)) (eV 6))))
  (sR (eC (.bl false)))
  sSkip)
  (sR (eAn (eFn m_law_combined (aC (eV 1) aN)) (eAn (eFn m_law_rows_hold (aC (eV 1) aN)) (eFn m_law_units_hold (aC (eV 1) aN)))))))))))))
def m_law : List D → M D := runP 9 1 b_law
end
end K00

namespace K00
open PySem PySem.Spec PyProof.Rows L2 DL
def topS (i : Nat) : Stmt := PySem.Challenge.pw_cyclebounds_k00_integers_and_forms.main.body.getD i (.Pass ⟨0, 0, 0, 0⟩)
structure Blt (K : PySem.W.Frag) (mg : Str → Option Value) : Prop where
  b_abs : mg "abs" = none
  b_all : mg "all" = none
  b_bool : mg "bool" = none
  b_int : mg "int" = none
  b_isinstance : mg "isinstance" = none
  b_len : mg "len" = none
  b_list : mg "list" = none
  b_range : mg "range" = none
  b_tuple : mg "tuple" = none
  x_Malformed : XcU K mg "Malformed"
section
variable {P : Program} {w : World} {K : PySem.W.Frag} {mg : Str → Option Value} {base : Heap}
abbrev fn_is_integer : Stmt := topS 1
theorem sc_is_integer : FnScope ["value"] ["value"] (defScope fn_is_integer) := ⟨rfl, rfl, rfl, by decide +kernel, rfl, by decide +kernel, by decide +kernel⟩
theorem ok_is_integer {f : Addr} {fd : FuncData} (F : Fun K "is_integer" "is_integer" fn_is_integer f fd) (T : Blt K mg)  : FnOk P w K mg base CX0 1 f fd ["value"] (spD K mg 1 m_is_integer) := by
  refine def_ok' (b := b_is_integer) (n := 1) (np := 1) F sc_is_integer rfl rfl rfl fun cdv A outer s H E hr => ?_
  unfold b_is_integer
  exact (z_one (z_ret (d_and (d_bi call_isiD s_isi (by rfl) T.b_isinstance (by decide +kernel) (d_cons (d_var 0) (d_cons (d_ty (by rfl) T.b_int (by decide +kernel)) d_nil))) (d_one (d_not (d_bi call_isiD s_isi (by rfl) T.b_isinstance (by decide +kernel) (d_cons (d_var 0) (d_cons (d_ty (by rfl) T.b_bool (by decide +kernel)) d_nil))))))))
abbrev fn_common_divisor : Stmt := topS 2
theorem sc_common_divisor : FnScope ["numbers", "found", "number", "a", "b"] ["numbers"] (defScope fn_common_divisor) := ⟨rfl, rfl, rfl, by decide +kernel, rfl, by decide +kernel, by decide +kernel⟩
theorem ok_common_divisor {f : Addr} {fd : FuncData} (F : Fun K "common_divisor" "common_divisor" fn_common_divisor f fd) (T : Blt K mg)  : FnOk P w K mg base CX0 1 f fd ["numbers"] (spD K mg 1 m_common_divisor) := by
  refine def_ok' (b := b_common_divisor) (n := 5) (np := 1) F sc_common_divisor rfl rfl rfl fun cdv A outer s H E hr => ?_
  unfold b_common_divisor
  exact (z_cons (z_set (i := 1) sc_common_divisor.nd rfl (by first | exact Or.inl rfl | exact Or.inr rfl) d_int)
  (z_cons (z_for PassesOwn.never rfl (i_seq (d_var 0)) (g_name (i := 2) sc_common_divisor.nd rfl (by first | exact Or.inl rfl | exact Or.inr rfl)) (z_cons (z_par (i := 3) (j := 4) rfl sc_common_divisor.nd rfl rfl (by decide) rfl rfl (d_cons (d_var 1) (d_cons (d_bi call_abs s_abs (by rfl) T.b_abs (by decide +kernel) (d_cons (d_var 2) d_nil)) d_nil)) (by rfl))
  (z_cons (z_while PassesOwn.never (t_cmp op_gt s_gt (d_var 4) d_int (nomark _)) (z_one (z_par (i := 3) (j := 4) rfl sc_common_divisor.nd rfl rfl (by decide) rfl rfl (d_cons (d_var 4) (d_cons (d_op op_modN s_mod (d_var 3) (d_var 4)) d_nil)) (by rfl))))
  (z_one (z_set (i := 1) sc_common_divisor.nd rfl (by first | exact Or.inl rfl | exact Or.inr rfl) (d_var 3))))))
  (z_one (z_ret (d_var 1)))))
abbrev fn_combination : Stmt := topS 3
theorem sc_combination : FnScope ["a", "b", "one", "two", "times", "rest"] ["a", "b"] (defScope fn_combination) := ⟨rfl, rfl, rfl, by decide +kernel, rfl, by decide +kernel, by decide +kernel⟩
theorem ok_combination {f : Addr} {fd : FuncData} (F : Fun K "combination" "combination" fn_combination f fd) (T : Blt K mg)  : FnOk P w K mg base CX0 1 f fd ["a", "b"] (spD K mg 2 m_combination) := by
  refine def_ok' (b := b_combination) (n := 6) (np := 2) F sc_combination rfl rfl rfl fun cdv A outer s H E hr => ?_
  unfold b_combination
  exact (z_cons (z_par (i := 2) (j := 3) rfl sc_combination.nd rfl rfl (by decide) rfl rfl (d_cons (d_tup (d_cons (d_var 0) (d_cons d_int (d_cons d_int d_nil)))) (d_cons (d_tup (d_cons (d_var 1) (d_cons d_int (d_cons d_int d_nil)))) d_nil)) (by rfl))
  (z_cons (z_while PassesOwn.never (t_cmp (op_neDD hr.units) s_ne (d_ix (d_var 3) d_int (fun _ _ => rfl)) d_int (nomark _)) (z_cons (z_set (i := 4) sc_combination.nd rfl (by first | exact Or.inl rfl | exact Or.inr rfl) (d_op op_fdivD s_fdiv (d_ix (d_var 2) d_int (fun _ _ => rfl)) (d_ix (d_var 3) d_int (fun _ _ => rfl))))
  (z_cons (z_set (i := 5) sc_combination.nd rfl (by first | exact Or.inl rfl | exact Or.inr rfl) (d_tup (d_cons (d_op op_sub s_sub (d_ix (d_var 2) d_int (fun _ _ => rfl)) (d_op op_mulD s_mul (d_var 4) (d_ix (d_var 3) d_int (fun _ _ => rfl)))) (d_cons (d_op op_sub s_sub (d_ix (d_var 2) d_int (fun _ _ => rfl)) (d_op op_mulD s_mul (d_var 4) (d_ix (d_var 3) d_int (fun _ _ => rfl)))) (d_cons (d_op op_sub s_sub (d_ix (d_var 2) d_int (fun _ _ => rfl)) (d_op op_mulD s_mul (d_var 4) (d_ix (d_var 3) d_int (fun _ _ => rfl)))) d_nil)))))
  (z_one (z_par (i := 2) (j := 3) rfl sc_combination.nd rfl rfl (by decide) rfl rfl (d_cons (d_var 3) (d_cons (d_var 5) d_nil)) (by rfl))))))
  (z_cons (z_if (t_cmp op_lt s_lt (d_ix (d_var 2) d_int (fun _ _ => rfl)) d_int (nomark _)) (z_one (z_set (i := 2) sc_combination.nd rfl (by first | exact Or.inl rfl | exact Or.inr rfl) (d_tup (d_cons (d_un un_neg s_neg (d_ix (d_var 2) d_int (fun _ _ => rfl))) (d_cons (d_un un_neg s_neg (d_ix (d_var 2) d_int (fun _ _ => rfl))) (d_cons (d_un un_neg s_neg (d_ix (d_var 2) d_int (fun _ _ => rfl))) d_nil)))))) z_nil)
  (z_one (z_ret (d_var 2))))))
abbrev fn_is_row : Stmt := topS 8
theorem sc_is_row : FnScope ["value", "n", "item"] ["value", "n"] (defScope fn_is_row) := ⟨rfl, rfl, rfl, by decide +kernel, rfl, by decide +kernel, by decide +kernel⟩
theorem ok_is_row {f : Addr} {fd : FuncData} (F : Fun K "is_row" "is_row" fn_is_row f fd) (T : Blt K mg) (C_is_integer : Cal P w K mg base "is_integer" 1 1 m_is_integer) : FnOk P w K mg base CX0 2 f fd ["value", "n"] (spD K mg 2 m_is_row) := by
  refine def_ok' (b := b_is_row) (n := 3) (np := 2) F sc_is_row rfl rfl rfl fun cdv A outer s H E hr => ?_
  unfold b_is_row
  exact (z_cons (z_if (PW.pt (w_or (t_not (t_val (d_bi call_isiD s_isi (by rfl) T.b_isinstance (by decide +kernel) (d_cons (d_var 0) (d_cons (d_ty (by rfl) T.b_tuple (by decide +kernel)) d_nil))))) (w_or1 (t_cmp (op_neDD hr.units) s_ne (d_bi call_len s_len (by rfl) T.b_len (by decide +kernel) (d_cons (d_var 0) d_nil)) (d_var 1) (nomark _))))) (z_one (z_ret d_bl)) z_nil)
  (z_one (z_ret (d_bi (cr_all rfl) s_all (by rfl) T.b_all (by decide +kernel) (d_cons (d_L (l_lc (own := [("item", 2)]) rfl sc_is_row.nd (i_seq (d_var 0)) (blkOk_by (by first | (dsimp only [cxOf, Cx.wish, Cx.blk, envOfC, compEnvC]; decide +kernel) | rfl)) (by decide) (fun _ _ _ _ _ => (g_name (i := 2) sc_is_row.nd rfl (by first | exact Or.inl rfl | exact Or.inr rfl))) (fun _ _ _ _ _ => ts_nil) (fun _ _ _ _ _ => (d_cal C_is_integer (hr.mono (by decide)) (by rfl) (d_cons (d_var 2) d_nil))))) d_nil)))))
abbrev fn_is_matrix : Stmt := topS 9
theorem sc_is_matrix : FnScope ["value", "n", "width", "row"] ["value", "n", "width"] (defScope fn_is_matrix) := ⟨rfl, rfl, rfl, by decide +kernel, rfl, by decide +kernel, by decide +kernel⟩
theorem ok_is_matrix {f : Addr} {fd : FuncData} (F : Fun K "is_matrix" "is_matrix" fn_is_matrix f fd) (T : Blt K mg) (C_is_row : Cal P w K mg base "is_row" 2 2 m_is_row) : FnOk P w K mg base CX0 3 f fd ["value", "n", "width"] (spD K mg 3 m_is_matrix) := by
  refine def_ok' (b := b_is_matrix) (n := 4) (np := 3) F sc_is_matrix rfl rfl rfl fun cdv A outer s H E hr => ?_
  unfold b_is_matrix
  exact (z_cons (z_if (PW.pt (w_or (t_not (t_val (d_bi call_isiD s_isi (by rfl) T.b_isinstance (by decide +kernel) (d_cons (d_var 0) (d_cons (d_ty (by rfl) T.b_tuple (by decide +kernel)) d_nil))))) (w_or1 (t_cmp (op_neDD hr.units) s_ne (d_bi call_len s_len (by rfl) T.b_len (by decide +kernel) (d_cons (d_var 0) d_nil)) (d_var 1) (nomark _))))) (z_one (z_ret d_bl)) z_nil)
  (z_one (z_ret (d_bi (cr_all rfl) s_all (by rfl) T.b_all (by decide +kernel) (d_cons (d_L (l_lc (own := [("row", 3)]) rfl sc_is_matrix.nd (i_seq (d_var 0)) (blkOk_by (by first | (dsimp only [cxOf, Cx.wish, Cx.blk, envOfC, compEnvC]; decide +kernel) | rfl)) (by decide) (fun _ _ _ _ _ => (g_name (i := 3) sc_is_matrix.nd rfl (by first | exact Or.inl rfl | exact Or.inr rfl))) (fun _ _ _ _ _ => ts_nil) (fun _ _ _ _ _ => (d_cal C_is_row (hr.mono (by decide)) (by rfl) (d_cons (d_var 3) (d_cons (d_var 2) d_nil)))))) d_nil)))))
abbrev fn_unit_row : Stmt := topS 10
theorem sc_unit_row : FnScope ["n", "i", "k"] ["n", "i"] (defScope fn_unit_row) := ⟨rfl, rfl, rfl, by decide +kernel, rfl, by decide +kernel, by decide +kernel⟩
theorem ok_unit_row {f : Addr} {fd : FuncData} (F : Fun K "unit_row" "unit_row" fn_unit_row f fd) (T : Blt K mg)  : FnOk P w K mg base CX0 1 f fd ["n", "i"] (spD K mg 2 m_unit_row) := by
  refine def_ok' (b := b_unit_row) (n := 3) (np := 2) F sc_unit_row rfl rfl rfl fun cdv A outer s H E hr => ?_
  unfold b_unit_row
  exact (z_one (z_ret (d_tyc call_tuple_of s_tuple (by rfl) T.b_tuple (by decide +kernel) (d_cons (d_L (l_lc (own := [("k", 2)]) rfl sc_unit_row.nd (i_r1 (by rfl) T.b_range (d_var 0)) (blkOk_by (by first | (dsimp only [cxOf, Cx.wish, Cx.blk, envOfC, compEnvC]; decide +kernel) | rfl)) (by decide) (fun _ _ _ _ _ => (g_name (i := 2) sc_unit_row.nd rfl (by first | exact Or.inl rfl | exact Or.inr rfl))) (fun _ _ _ _ _ => ts_nil) (fun _ _ _ _ _ => (d_tyc call_int1 s_int (by rfl) T.b_int (by decide +kernel) (d_cons (d_cmp (op_eqDD hr.units) s_eq (d_var 2) (d_var 1) (nomark _)) d_nil))))) d_nil))))
abbrev fn_unit_matrix : Stmt := topS 11
theorem sc_unit_matrix : FnScope ["n", "i"] ["n"] (defScope fn_unit_matrix) := ⟨rfl, rfl, rfl, by decide +kernel, rfl, by decide +kernel, by decide +kernel⟩
theorem ok_unit_matrix {f : Addr} {fd : FuncData} (F : Fun K "unit_matrix" "unit_matrix" fn_unit_matrix f fd) (T : Blt K mg) (C_unit_row : Cal P w K mg base "unit_row" 1 2 m_unit_row) : FnOk P w K mg base CX0 2 f fd ["n"] (spD K mg 1 m_unit_matrix) := by
  refine def_ok' (b := b_unit_matrix) (n := 2) (np := 1) F sc_unit_matrix rfl rfl rfl fun cdv A outer s H E hr => ?_
  unfold b_unit_matrix
  exact (z_one (z_ret (d_tyc call_tuple_of s_tuple (by rfl) T.b_tuple (by decide +kernel) (d_cons (d_L (l_lc (own := [("i", 1)]) rfl sc_unit_matrix.nd (i_r1 (by rfl) T.b_range (d_var 0)) (blkOk_by (by first | (dsimp only [cxOf, Cx.wish, Cx.blk, envOfC, compEnvC]; decide +kernel) | rfl)) (by decide) (fun _ _ _ _ _ => (g_name (i := 1) sc_unit_matrix.nd rfl (by first | exact Or.inl rfl | exact Or.inr rfl))) (fun _ _ _ _ _ => ts_nil) (fun _ _ _ _ _ => (d_cal C_unit_row (hr.mono (by decide)) (by rfl) (d_cons (d_var 0) (d_cons (d_var 1) d_nil)))))) d_nil))))
abbrev fn_zero_matrix : Stmt := topS 12
theorem sc_zero_matrix : FnScope ["n", "width", "i"] ["n", "width"] (defScope fn_zero_matrix) := ⟨rfl, rfl, rfl, by decide +kernel, rfl, by decide +kernel, by decide +kernel⟩
theorem ok_zero_matrix {f : Addr} {fd : FuncData} (F : Fun K "zero_matrix" "zero_matrix" fn_zero_matrix f fd) (T : Blt K mg)  : FnOk P w K mg base CX0 1 f fd ["n", "width"] (spD K mg 2 m_zero_matrix) := by
  refine def_ok' (b := b_zero_matrix) (n := 3) (np := 2) F sc_zero_matrix rfl rfl rfl fun cdv A outer s H E hr => ?_
  unfold b_zero_matrix
  exact (z_one (z_ret (d_tyc call_tuple_of s_tuple (by rfl) T.b_tuple (by decide +kernel) (d_cons (d_L (l_lc (own := [("i", 2)]) rfl sc_zero_matrix.nd (i_r1 (by rfl) T.b_range (d_var 0)) (blkOk_by (by first | (dsimp only [cxOf, Cx.wish, Cx.blk, envOfC, compEnvC]; decide +kernel) | rfl)) (by decide) (fun _ _ _ _ _ => (g_name (i := 2) sc_zero_matrix.nd rfl (by first | exact Or.inl rfl | exact Or.inr rfl))) (fun _ _ _ _ _ => ts_nil) (fun _ _ _ _ _ => (d_op op_mulD s_mul (d_tup (d_cons d_int d_nil)) (d_var 1))))) d_nil))))
abbrev fn_law_state : Stmt := topS 14
theorem sc_law_state : FnScope ["script", "seed", "total", "cell"] ["script"] (defScope fn_law_state) := ⟨rfl, rfl, rfl, by decide +kernel, rfl, by decide +kernel, by decide +kernel⟩
theorem ok_law_state {f : Addr} {fd : FuncData} (F : Fun K "_law_state" "_law_state" fn_law_state f fd) (T : Blt K mg)  : FnOk P w K mg base CX0 1 f fd ["script"] (spL K mg 1 m_law_state) := by
  refine defL_ok' (b := b_law_state) (n := 4) (np := 1) F sc_law_state rfl rfl rfl fun cdv A outer s H E hr => ?_
  unfold b_law_state
  exact (z_cons (z_set (i := 1) sc_law_state.nd rfl (by first | exact Or.inl rfl | exact Or.inr rfl) d_int)
  (z_cons (z_set (i := 2) sc_law_state.nd rfl (by first | exact Or.inl rfl | exact Or.inr rfl) d_int)
  (z_cons (z_for PassesOwn.never rfl (i_seq (d_cut (d_var 0) o_none (o_some d_int))) (g_name (i := 3) sc_law_state.nd rfl (by first | exact Or.inl rfl | exact Or.inr rfl)) (z_cons (z_set (i := 1) sc_law_state.nd rfl (by first | exact Or.inl rfl | exact Or.inr rfl) (d_op op_addD s_add (d_op op_mulD s_mul (d_var 1) d_int) (d_bi call_abs s_abs (by rfl) T.b_abs (by decide +kernel) (d_cons (d_var 3) d_nil))))
  (z_one (z_set (i := 2) sc_law_state.nd rfl (by first | exact Or.inl rfl | exact Or.inr rfl) (d_op op_modN s_mod (d_tyc call_int1 s_int (by rfl) T.b_int (by decide +kernel) (d_cons (d_op op_addD s_add (d_op op_mulD s_mul (d_var 2) d_int) (d_var 3)) d_nil)) d_int)))))
  (z_one (z_retL (l_lst (d_cons (d_var 1) (d_cons (d_var 2) d_nil))))))))
abbrev fn_law_take : Stmt := topS 15
theorem sc_law_take : FnScope ["state", "m", "value"] ["state", "m"] (defScope fn_law_take) := ⟨rfl, rfl, rfl, by decide +kernel, rfl, by decide +kernel, by decide +kernel⟩
theorem ok_law_take {f : Addr} {fd : FuncData} (F : Fun K "_law_take" "_law_take" fn_law_take f fd) (T : Blt K mg)  : FnOk P w K mg base CX0 1 f fd ["state", "m"] (spD K mg 2 m_law_take) := by
  refine def_ok' (b := b_law_take) (n := 3) (np := 2) F sc_law_take rfl rfl rfl fun cdv A outer s H E hr => ?_
  unfold b_law_take
  exact (z_cons (z_if (t_cmp op_gt s_gt (d_ix (d_var 0) d_int (fun _ _ => rfl)) d_int (nomark _)) (z_cons (z_set (i := 2) sc_law_take.nd rfl (by first | exact Or.inl rfl | exact Or.inr rfl) (d_op op_modN s_mod (d_tyc call_int1 s_int (by rfl) T.b_int (by decide +kernel) (d_cons (d_ix (d_var 0) d_int (fun _ _ => rfl)) d_nil)) (d_var 1)))
  (z_cons (z_sub (i := 0) (d_op op_fdivD s_fdiv (d_ix (d_var 0) d_int (fun _ _ => rfl)) (d_var 1)) (pg_sub (pv 0) d_int set_list))
  (z_one (z_ret (d_var 2))))) z_nil)
  (z_cons (z_sub (i := 0) (d_op op_modN s_mod (d_tyc call_int1 s_int (by rfl) T.b_int (by decide +kernel) (d_cons (d_op op_addD s_add (d_op op_mulD s_mul (d_ix (d_var 0) d_int (fun _ _ => rfl)) d_int) d_int) d_nil)) d_int) (pg_sub (pv 0) d_int set_list))
  (z_one (z_ret (d_op op_modN s_mod (d_tyc call_int1 s_int (by rfl) T.b_int (by decide +kernel) (d_cons (d_op op_fdivD s_fdiv (d_ix (d_var 0) d_int (fun _ _ => rfl)) d_int) d_nil)) (d_var 1))))))
abbrev fn_law_says : Stmt := topS 16
theorem sc_law_says : FnScope ["value", "due"] ["value", "due"] (defScope fn_law_says) := ⟨rfl, rfl, rfl, by decide +kernel, rfl, by decide +kernel, by decide +kernel⟩
theorem ok_law_says {f : Addr} {fd : FuncData} (F : Fun K "_law_says" "_law_says" fn_law_says f fd) (T : Blt K mg)  : FnOk P w K mg base CX0 1 f fd ["value", "due"] (spD K mg 2 m_law_says) := by
  refine def_ok' (b := b_law_says) (n := 2) (np := 2) F sc_law_says rfl rfl rfl fun cdv A outer s H E hr => ?_
  unfold b_law_says
  exact (z_one (z_ret (d_and (d_bi call_isiD s_isi (by rfl) T.b_isinstance (by decide +kernel) (d_cons (d_var 0) (d_cons (d_ty (by rfl) T.b_bool (by decide +kernel)) d_nil))) (d_one (d_cmp (op_eqDD hr.units) s_eq (d_var 0) (d_var 1) (nomark _))))))
abbrev fn_law_common : Stmt := topS 17
theorem sc_law_common : FnScope ["a", "b"] ["a", "b"] (defScope fn_law_common) := ⟨rfl, rfl, rfl, by decide +kernel, rfl, by decide +kernel, by decide +kernel⟩
theorem ok_law_common {f : Addr} {fd : FuncData} (F : Fun K "_law_common" "_law_common" fn_law_common f fd) (T : Blt K mg)  : FnOk P w K mg base CX0 1 f fd ["a", "b"] (spD K mg 2 m_law_common) := by
  refine def_ok' (b := b_law_common) (n := 2) (np := 2) F sc_law_common rfl rfl rfl fun cdv A outer s H E hr => ?_
  unfold b_law_common
  exact (z_cons (z_while PassesOwn.never (t_cmp op_gt s_gt (d_var 1) d_int (nomark _)) (z_one (z_par (i := 0) (j := 1) rfl sc_law_common.nd rfl rfl (by decide) rfl rfl (d_cons (d_var 1) (d_cons (d_op op_modN s_mod (d_tyc call_int1 s_int (by rfl) T.b_int (by decide +kernel) (d_cons (d_var 0) d_nil)) (d_var 1)) d_nil)) (by rfl))))
  (z_one (z_ret (d_var 0))))
abbrev fn_law_number : Stmt := topS 18
theorem sc_law_number : FnScope ["state", "most"] ["state"] (defScope fn_law_number) := ⟨rfl, rfl, rfl, by decide +kernel, rfl, by decide +kernel, by decide +kernel⟩
theorem ok_law_number {f : Addr} {fd : FuncData} (F : Fun K "_law_number" "_law_number" fn_law_number f fd) (T : Blt K mg) (C_law_take : Cal P w K mg base "_law_take" 1 2 m_law_take) : FnOk P w K mg base CX0 2 f fd ["state"] (spD K mg 1 m_law_number) := by
  refine def_ok' (b := b_law_number) (n := 2) (np := 1) F sc_law_number rfl rfl rfl fun cdv A outer s H E hr => ?_
  unfold b_law_number
  exact (z_cons (z_set (i := 1) sc_law_number.nd rfl (by first | exact Or.inl rfl | exact Or.inr rfl) (d_ix (d_L (l_lst (d_cons d_int (d_cons d_int (d_cons d_int (d_cons (d_op op_pow s_pow d_int d_int) (d_cons (d_op op_pow s_pow d_int d_int) d_nil))))))) (d_cal C_law_take (hr.mono (by decide)) (by rfl) (d_cons (d_var 0) (d_cons d_int d_nil))) (fun _ _ => rfl)))
  (z_one (z_ret (d_op op_sub s_sub (d_cal C_law_take (hr.mono (by decide)) (by rfl) (d_cons (d_var 0) (d_cons (d_op op_addD s_add (d_op op_mulD s_mul d_int (d_var 1)) d_int) d_nil))) (d_var 1)))))
abbrev fn_law_divisor : Stmt := topS 19
theorem sc_law_divisor : FnScope ["numbers", "found", "number"] ["numbers"] (defScope fn_law_divisor) := ⟨rfl, rfl, rfl, by decide +kernel, rfl, by decide +kernel, by decide +kernel⟩
theorem ok_law_divisor {f : Addr} {fd : FuncData} (F : Fun K "_law_divisor" "_law_divisor" fn_law_divisor f fd) (T : Blt K mg) (C_law_common : Cal P w K mg base "_law_common" 1 2 m_law_common) : FnOk P w K mg base CX0 2 f fd ["numbers"] (spD K mg 1 m_law_divisor) := by
  refine def_ok' (b := b_law_divisor) (n := 3) (np := 1) F sc_law_divisor rfl rfl rfl fun cdv A outer s H E hr => ?_
  unfold b_law_divisor
  exact (z_cons (z_set (i := 1) sc_law_divisor.nd rfl (by first | exact Or.inl rfl | exact Or.inr rfl) d_int)
  (z_cons (z_for PassesOwn.never rfl (i_seq (d_var 0)) (g_name (i := 2) sc_law_divisor.nd rfl (by first | exact Or.inl rfl | exact Or.inr rfl)) (z_one (z_set (i := 1) sc_law_divisor.nd rfl (by first | exact Or.inl rfl | exact Or.inr rfl) (d_cal C_law_common (hr.mono (by decide)) (by rfl) (d_cons (d_var 1) (d_cons (d_bi call_abs s_abs (by rfl) T.b_abs (by decide +kernel) (d_cons (d_var 2) d_nil)) d_nil))))))
  (z_one (z_ret (d_var 1)))))
abbrev fn_law_combined : Stmt := topS 20
theorem sc_law_combined : FnScope ["state", "by", "a", "b", "told", "c"] ["state"] (defScope fn_law_combined) := ⟨rfl, rfl, rfl, by decide +kernel, rfl, by decide +kernel, by decide +kernel⟩
theorem ok_law_combined {f : Addr} {fd : FuncData} (F : Fun K "_law_combined" "_law_combined" fn_law_combined f fd) (T : Blt K mg) (C_law_divisor : Cal P w K mg base "_law_divisor" 2 1 m_law_divisor) (C_law_number : Cal P w K mg base "_law_number" 2 1 m_law_number) (C_law_take : Cal P w K mg base "_law_take" 1 2 m_law_take) (C_combination : Cal P w K mg base "combination" 1 2 m_combination) (C_is_integer : Cal P w K mg base "is_integer" 1 1 m_is_integer) : FnOk P w K mg base CX0 3 f fd ["state"] (spD K mg 1 m_law_combined) := by
  refine def_ok' (b := b_law_combined) (n := 6) (np := 1) F sc_law_combined rfl rfl rfl fun cdv A outer s H E hr => ?_
  unfold b_law_combined
  exact (z_cons (z_set (i := 1) sc_law_combined.nd rfl (by first | exact Or.inl rfl | exact Or.inr rfl) (d_op op_addD s_add d_int (d_cal C_law_take (hr.mono (by decide)) (by rfl) (d_cons (d_var 0) (d_cons d_int d_nil)))))
  (z_cons (z_par (i := 2) (j := 3) rfl sc_law_combined.nd rfl rfl (by decide) rfl rfl (d_cons (d_op op_mulD s_mul (d_cal C_law_number (hr.mono (by decide)) (by rfl) (d_cons (d_var 0) d_nil)) (d_var 1)) (d_cons (d_op op_mulD s_mul (d_cal C_law_number (hr.mono (by decide)) (by rfl) (d_cons (d_var 0) d_nil)) (d_var 1)) d_nil)) (by rfl))
  (z_cons (z_if (t_cmp (op_eqDD hr.units) s_eq (d_cal C_law_take (hr.mono (by decide)) (by rfl) (d_cons (d_var 0) (d_cons d_int d_nil))) d_int (nomark _)) (z_one (z_set (i := 3) sc_law_combined.nd rfl (by first | exact Or.inl rfl | exact Or.inr rfl) (d_ix (d_L (l_lst (d_cons d_int (d_cons (d_var 2) (d_cons (d_un un_neg s_neg (d_var 2)) (d_cons d_int d_nil)))))) (d_cal C_law_take (hr.mono (by decide)) (by rfl) (d_cons (d_var 0) (d_cons d_int d_nil))) (fun _ _ => rfl)))) z_nil)
  (z_cons (z_set (i := 4) sc_law_combined.nd rfl (by first | exact Or.inl rfl | exact Or.inr rfl) (d_cal C_combination (hr.mono (by decide)) (by rfl) (d_cons (d_var 2) (d_cons (d_var 3) d_nil))))
  (z_cons (z_if (PW.pt (w_or (t_not (t_val (d_bi call_isiD s_isi (by rfl) T.b_isinstance (by decide +kernel) (d_cons (d_var 4) (d_cons (d_ty (by rfl) T.b_tuple (by decide +kernel)) d_nil))))) (w_or (t_cmp (op_neDD hr.units) s_ne (d_bi call_len s_len (by rfl) T.b_len (by decide +kernel) (d_cons (d_var 4) d_nil)) d_int (nomark _)) (w_or1 (t_cmp op_gt s_gt (d_bi call_len s_len (by rfl) T.b_len (by decide +kernel) (d_cons (d_L (l_lc (own := [("c", 5)]) rfl sc_law_combined.nd (i_seq (d_var 4)) (blkOk_by (by first | (dsimp only [cxOf, Cx.wish, Cx.blk, envOfC, compEnvC]; decide +kernel) | rfl)) (by decide) (fun _ _ _ _ _ => (g_name (i := 5) sc_law_combined.nd rfl (by first | exact Or.inl rfl | exact Or.inr rfl))) (fun _ _ _ _ _ => (ts_one (t_cmp op_isNotD s_isN (d_cal C_is_integer (hr.mono (by decide)) (by rfl) (d_cons (d_var 5) d_nil)) d_bl (nomark _)))) (fun _ _ _ _ _ => (d_var 5)))) d_nil)) d_int (nomark _)))))) (z_one (z_ret d_bl)) z_nil)
  (z_one (z_ret (d_and (d_cmp (op_eqDD hr.units) s_eq (d_ix (d_var 4) d_int (fun _ _ => rfl)) (d_cal C_law_divisor (hr.mono (by decide)) (by rfl) (d_cons (d_L (l_lst (d_cons (d_var 2) (d_cons (d_var 3) d_nil)))) d_nil)) (nomark _)) (d_one (d_cmp (op_eqDD hr.units) s_eq (d_op op_addD s_add (d_op op_mulD s_mul (d_var 2) (d_ix (d_var 4) d_int (fun _ _ => rfl))) (d_op op_mulD s_mul (d_var 3) (d_ix (d_var 4) d_int (fun _ _ => rfl)))) (d_ix (d_var 4) d_int (fun _ _ => rfl)) (nomark _)))))))))))
abbrev fn_law_strange : Stmt := topS 21
theorem sc_law_strange : FnScope ["state", "good", "values", "at"] ["state", "good"] (defScope fn_law_strange) := ⟨rfl, rfl, rfl, by decide +kernel, rfl, by decide +kernel, by decide +kernel⟩
theorem ok_law_strange {f : Addr} {fd : FuncData} (F : Fun K "_law_strange" "_law_strange" fn_law_strange f fd) (T : Blt K mg) (C_law_take : Cal P w K mg base "_law_take" 1 2 m_law_take) : FnOk P w K mg base CX0 2 f fd ["state", "good"] (spD K mg 2 m_law_strange) := by
  refine def_ok' (b := b_law_strange) (n := 4) (np := 2) F sc_law_strange rfl rfl rfl fun cdv A outer s H E hr => ?_
  unfold b_law_strange
  exact (z_cons (z_set (i := 2) sc_law_strange.nd rfl (by first | exact Or.inl rfl | exact Or.inr rfl) (d_L (l_lst (d_cons d_non (d_cons d_bl (d_cons d_bl (d_cons d_str (d_cons d_str (d_cons (d_tup (d_cons d_int d_nil)) (d_cons (d_L (l_lst (d_cons d_int d_nil))) (d_cons (d_tup d_nil) (d_cons (d_exnV T.x_Malformed rfl (by rfl) d_str) (d_cons (d_var 1) (d_cons (d_un un_neg s_neg (d_var 1)) d_nil))))))))))))))
  (z_cons (z_set (i := 3) sc_law_strange.nd rfl (by first | exact Or.inl rfl | exact Or.inr rfl) (d_cal C_law_take (hr.mono (by decide)) (by rfl) (d_cons (d_var 0) (d_cons d_int d_nil))))
  (z_one (z_ret (d_tup (d_cons (d_ix (d_var 2) (d_var 3) (fun _ _ => rfl)) (d_cons (d_cmp op_gt s_gt (d_var 3) d_int (nomark _)) d_nil)))))))
abbrev fn_law_rows_hold : Stmt := topS 22
theorem sc_law_rows_hold : FnScope ["state", "n", "width", "row", "table", "at", "value", "good", "other", "k", "more", "i"] ["state"] (defScope fn_law_rows_hold) := ⟨rfl, rfl, rfl, by decide +kernel, rfl, by decide +kernel, by decide +kernel⟩
theorem ok_law_rows_hold {f : Addr} {fd : FuncData} (F : Fun K "_law_rows_hold" "_law_rows_hold" fn_law_rows_hold f fd) (T : Blt K mg) (C_law_number : Cal P w K mg base "_law_number" 2 1 m_law_number) (C_law_says : Cal P w K mg base "_law_says" 1 2 m_law_says) (C_law_strange : Cal P w K mg base "_law_strange" 2 2 m_law_strange) (C_law_take : Cal P w K mg base "_law_take" 1 2 m_law_take) (C_is_matrix : Cal P w K mg base "is_matrix" 3 3 m_is_matrix) (C_is_row : Cal P w K mg base "is_row" 2 2 m_is_row) : FnOk P w K mg base CX0 4 f fd ["state"] (spD K mg 1 m_law_rows_hold) := by
  refine def_ok' (b := b_law_rows_hold) (n := 12) (np := 1) F sc_law_rows_hold rfl rfl rfl fun cdv A outer s H E hr => ?_
  unfold b_law_rows_hold
  exact (z_cons (z_tup (d_tup (d_cons (d_cal C_law_take (hr.mono (by decide)) (by rfl) (d_cons (d_var 0) (d_cons d_int d_nil))) (d_cons (d_cal C_law_take (hr.mono (by decide)) (by rfl) (d_cons (d_var 0) (d_cons d_int d_nil))) d_nil))) (g_tup rfl (g_cons (i := 1) sc_law_rows_hold.nd rfl (by first | exact Or.inl rfl | exact Or.inr rfl) (g_cons (i := 2) sc_law_rows_hold.nd rfl (by first | exact Or.inl rfl | exact Or.inr rfl) g_nil))))
  (z_cons (z_set (i := 3) sc_law_rows_hold.nd rfl (by first | exact Or.inl rfl | exact Or.inr rfl) (d_tyc call_tuple_of s_tuple (by rfl) T.b_tuple (by decide +kernel) (d_cons (d_L (l_lc (own := [("k", 9)]) rfl sc_law_rows_hold.nd (i_r1 (by rfl) T.b_range (d_var 2)) (blkOk_by (by first | (dsimp only [cxOf, Cx.wish, Cx.blk, envOfC, compEnvC]; decide +kernel) | rfl)) (by decide) (fun _ _ _ _ _ => (g_name (i := 9) sc_law_rows_hold.nd rfl (by first | exact Or.inl rfl | exact Or.inr rfl))) (fun _ _ _ _ _ => ts_nil) (fun _ _ _ _ _ => (d_cal C_law_number (hr.mono (by decide)) (by rfl) (d_cons (d_var 0) d_nil))))) d_nil)))
  (z_cons (z_if (PW.pt (w_or (t_cmp op_isNotD s_isN (d_cal C_is_row (hr.mono (by decide)) (by rfl) (d_cons (d_var 3) (d_cons (d_var 2) d_nil))) d_bl (nomark _)) (w_or (t_cmp op_isNotD s_isN (d_cal C_is_row (hr.mono (by decide)) (by rfl) (d_cons (d_L (l_of (by rfl) T.b_list (by decide +kernel) (d_var 3))) (d_cons (d_var 2) d_nil))) d_bl (nomark _)) (w_or1 (t_cmp op_isNotD s_isN (d_cal C_is_row (hr.mono (by decide)) (by rfl) (d_cons (d_op op_addD s_add (d_var 3) (d_tup (d_cons d_int d_nil))) (d_cons (d_var 2) d_nil))) d_bl (nomark _)))))) (z_one (z_ret d_bl)) z_nil)
  (z_cons (z_if (PW.pt (w_or (t_cmp op_isNotD s_isN (d_cal C_is_row (hr.mono (by decide)) (by rfl) (d_cons (d_op op_mulD s_mul d_str (d_var 2)) (d_cons (d_var 2) d_nil))) d_bl (nomark _)) (w_or (t_cmp op_isNotD s_isN (d_cal C_is_row (hr.mono (by decide)) (by rfl) (d_cons d_non (d_cons (d_var 2) d_nil))) d_bl (nomark _)) (w_or1 (t_cmp op_isNotD s_isN (d_cal C_is_row (hr.mono (by decide)) (by rfl) (d_cons (d_var 3) (d_cons (d_op op_addD s_add (d_var 2) d_int) d_nil))) d_bl (nomark _)))))) (z_one (z_ret d_bl)) z_nil)
  (z_cons (z_set (i := 4) sc_law_rows_hold.nd rfl (by first | exact Or.inl rfl | exact Or.inr rfl) (d_tyc call_tuple_of s_tuple (by rfl) T.b_tuple (by decide +kernel) (d_cons (d_L (l_lc (own := [("i", 11)]) rfl sc_law_rows_hold.nd (i_r1 (by rfl) T.b_range (d_var 1)) (blkOk_by (by first | (dsimp only [cxOf, Cx.wish, Cx.blk, envOfC, compEnvC]; decide +kernel) | rfl)) (by decide) (fun _ _ _ _ _ => (g_name (i := 11) sc_law_rows_hold.nd rfl (by first | exact Or.inl rfl | exact Or.inr rfl))) (fun _ _ _ _ _ => ts_nil) (fun _ _ _ _ _ => (d_tyc call_tuple_of s_tuple (by rfl) T.b_tuple (by decide +kernel) (d_cons (d_L (l_lc (own := [("k", 9)]) rfl sc_law_rows_hold.nd (i_r1 (by rfl) T.b_range (d_var 2)) (blkOk_by (by first | (dsimp only [cxOf, Cx.wish, Cx.blk, envOfC, compEnvC]; decide +kernel) | rfl)) (by decide) (fun _ _ _ _ _ => (g_name (i := 9) sc_law_rows_hold.nd rfl (by first | exact Or.inl rfl | exact Or.inr rfl))) (fun _ _ _ _ _ => ts_nil) (fun _ _ _ _ _ => (d_cal C_law_number (hr.mono (by decide)) (by rfl) (d_cons (d_var 0) d_nil))))) d_nil))))) d_nil)))
  (z_cons (z_if (PW.pt (w_or (t_cmp op_isNotD s_isN (d_cal C_is_matrix (hr.mono (by decide)) (by rfl) (d_cons (d_var 4) (d_cons (d_var 1) (d_cons (d_var 2) d_nil)))) d_bl (nomark _)) (w_or1 (t_cmp op_isNotD s_isN (d_cal C_is_matrix (hr.mono (by decide)) (by rfl) (d_cons (d_L (l_of (by rfl) T.b_list (by decide +kernel) (d_var 4))) (d_cons (d_var 1) (d_cons (d_var 2) d_nil)))) d_bl (nomark _))))) (z_one (z_ret d_bl)) z_nil)
  (z_cons (z_if (PW.pt (w_or (t_cmp op_isNotD s_isN (d_cal C_is_matrix (hr.mono (by decide)) (by rfl) (d_cons (d_var 4) (d_cons (d_op op_addD s_add (d_var 1) d_int) (d_cons (d_var 2) d_nil)))) d_bl (nomark _)) (w_or1 (t_cmp op_isNotD s_isN (d_cal C_is_matrix (hr.mono (by decide)) (by rfl) (d_cons (d_op op_addD s_add (d_var 4) (d_tup (d_cons (d_op op_mulD s_mul (d_tup (d_cons d_int d_nil)) (d_op op_addD s_add (d_var 2) d_int)) d_nil))) (d_cons (d_op op_addD s_add (d_var 1) d_int) (d_cons (d_var 2) d_nil)))) d_bl (nomark _))))) (z_one (z_ret d_bl)) z_nil)
  (z_cons (z_if (PW.pt (w_or (t_cmp op_isNotD s_isN (d_cal C_is_matrix (hr.mono (by decide)) (by rfl) (d_cons (d_op op_addD s_add (d_var 4) (d_tup (d_cons (d_op op_mulD s_mul (d_L (l_lst (d_cons d_int d_nil))) (d_var 2)) d_nil))) (d_cons (d_op op_addD s_add (d_var 1) d_int) (d_cons (d_var 2) d_nil)))) d_bl (nomark _)) (w_or1 (t_cmp op_isNotD s_isN (d_cal C_is_matrix (hr.mono (by decide)) (by rfl) (d_cons d_non (d_cons (d_var 1) (d_cons (d_var 2) d_nil)))) d_bl (nomark _))))) (z_one (z_ret d_bl)) z_nil)
  (z_cons (z_if (t_cmp (op_eqDD hr.units) s_eq (d_var 2) d_int (nomark _)) (z_one (z_ret d_bl)) z_nil)
  (z_cons (z_set (i := 5) sc_law_rows_hold.nd rfl (by first | exact Or.inl rfl | exact Or.inr rfl) (d_cal C_law_take (hr.mono (by decide)) (by rfl) (d_cons (d_var 0) (d_cons (d_var 2) d_nil))))
  (z_cons (z_tup (d_cal C_law_strange (hr.mono (by decide)) (by rfl) (d_cons (d_var 0) (d_cons d_int d_nil))) (g_tup rfl (g_cons (i := 6) sc_law_rows_hold.nd rfl (by first | exact Or.inl rfl | exact Or.inr rfl) (g_cons (i := 7) sc_law_rows_hold.nd rfl (by first | exact Or.inl rfl | exact Or.inr rfl) g_nil))))
  (z_cons (z_set (i := 8) sc_law_rows_hold.nd rfl (by first | exact Or.inl rfl | exact Or.inr rfl) (d_op op_addD s_add (d_op op_addD s_add (d_cut (d_var 3) o_none (o_some (d_var 5))) (d_tup (d_cons (d_var 6) d_nil))) (d_cut (d_var 3) (o_some (d_op op_addD s_add (d_var 5) d_int)) o_none)))
  (z_cons (z_if (t_not (t_val (d_cal C_law_says (hr.mono (by decide)) (by rfl) (d_cons (d_cal C_is_row (hr.mono (by decide)) (by rfl) (d_cons (d_var 8) (d_cons (d_var 2) d_nil))) (d_cons (d_var 7) d_nil))))) (z_one (z_ret d_bl)) z_nil)
  (z_cons (z_set (i := 9) sc_law_rows_hold.nd rfl (by first | exact Or.inl rfl | exact Or.inr rfl) (d_cal C_law_take (hr.mono (by decide)) (by rfl) (d_cons (d_var 0) (d_cons (d_op op_addD s_add (d_var 1) d_int) d_nil))))
  (z_cons (z_set (i := 10) sc_law_rows_hold.nd rfl (by first | exact Or.inl rfl | exact Or.inr rfl) (d_op op_addD s_add (d_op op_addD s_add (d_cut (d_var 4) o_none (o_some (d_var 9))) (d_tup (d_cons (d_var 8) d_nil))) (d_cut (d_var 4) (o_some (d_var 9)) o_none)))
  (z_one (z_ret (d_and (d_cal C_law_says (hr.mono (by decide)) (by rfl) (d_cons (d_cal C_is_matrix (hr.mono (by decide)) (by rfl) (d_cons (d_var 10) (d_cons (d_op op_addD s_add (d_var 1) d_int) (d_cons (d_var 2) d_nil)))) (d_cons (d_var 7) d_nil))) (d_one (d_cmp op_isD s_is (d_cal C_is_matrix (hr.mono (by decide)) (by rfl) (d_cons (d_var 10) (d_cons (d_var 1) (d_cons (d_var 2) d_nil)))) d_bl (nomark _)))))))))))))))))))))
abbrev fn_law_units_hold : Stmt := topS 23
theorem sc_law_units_hold : FnScope ["state", "n", "width", "i", "k"] ["state"] (defScope fn_law_units_hold) := ⟨rfl, rfl, rfl, by decide +kernel, rfl, by decide +kernel, by decide +kernel⟩
theorem ok_law_units_hold {f : Addr} {fd : FuncData} (F : Fun K "_law_units_hold" "_law_units_hold" fn_law_units_hold f fd) (T : Blt K mg) (C_law_take : Cal P w K mg base "_law_take" 1 2 m_law_take) (C_unit_matrix : Cal P w K mg base "unit_matrix" 2 1 m_unit_matrix) (C_unit_row : Cal P w K mg base "unit_row" 1 2 m_unit_row) (C_zero_matrix : Cal P w K mg base "zero_matrix" 1 2 m_zero_matrix) : FnOk P w K mg base CX0 3 f fd ["state"] (spD K mg 1 m_law_units_hold) := by
  refine def_ok' (b := b_law_units_hold) (n := 5) (np := 1) F sc_law_units_hold rfl rfl rfl fun cdv A outer s H E hr => ?_
  unfold b_law_units_hold
  exact (z_cons (z_tup (d_tup (d_cons (d_cal C_law_take (hr.mono (by decide)) (by rfl) (d_cons (d_var 0) (d_cons d_int d_nil))) (d_cons (d_cal C_law_take (hr.mono (by decide)) (by rfl) (d_cons (d_var 0) (d_cons d_int d_nil))) d_nil))) (g_tup rfl (g_cons (i := 1) sc_law_units_hold.nd rfl (by first | exact Or.inl rfl | exact Or.inr rfl) (g_cons (i := 2) sc_law_units_hold.nd rfl (by first | exact Or.inl rfl | exact Or.inr rfl) g_nil))))
  (z_cons (z_if (t_cmp (op_neDD hr.units) s_ne (d_cal C_unit_matrix (hr.mono (by decide)) (by rfl) (d_cons (d_var 1) d_nil)) (d_tyc call_tuple_of s_tuple (by rfl) T.b_tuple (by decide +kernel) (d_cons (d_L (l_lc (own := [("i", 3)]) rfl sc_law_units_hold.nd (i_r1 (by rfl) T.b_range (d_var 1)) (blkOk_by (by first | (dsimp only [cxOf, Cx.wish, Cx.blk, envOfC, compEnvC]; decide +kernel) | rfl)) (by decide) (fun _ _ _ _ _ => (g_name (i := 3) sc_law_units_hold.nd rfl (by first | exact Or.inl rfl | exact Or.inr rfl))) (fun _ _ _ _ _ => ts_nil) (fun _ _ _ _ _ => (d_tyc call_tuple_of s_tuple (by rfl) T.b_tuple (by decide +kernel) (d_cons (d_L (l_lc (own := [("k", 4)]) rfl sc_law_units_hold.nd (i_r1 (by rfl) T.b_range (d_var 1)) (blkOk_by (by first | (dsimp only [cxOf, Cx.wish, Cx.blk, envOfC, compEnvC]; decide +kernel) | rfl)) (by decide) (fun _ _ _ _ _ => (g_name (i := 4) sc_law_units_hold.nd rfl (by first | exact Or.inl rfl | exact Or.inr rfl))) (fun _ _ _ _ _ => ts_nil) (fun _ _ _ _ _ => (d_tyc call_int1 s_int (by rfl) T.b_int (by decide +kernel) (d_cons (d_cmp (op_eqDD hr.units) s_eq (d_var 3) (d_var 4) (nomark _)) d_nil))))) d_nil))))) d_nil)) (nomark _)) (z_one (z_ret d_bl)) z_nil)
  (z_cons (z_if (t_cmp (op_neDD hr.units) s_ne (d_cal C_zero_matrix (hr.mono (by decide)) (by rfl) (d_cons (d_var 1) (d_cons (d_var 2) d_nil))) (d_tyc call_tuple_of s_tuple (by rfl) T.b_tuple (by decide +kernel) (d_cons (d_L (l_lc (own := [("i", 3)]) rfl sc_law_units_hold.nd (i_r1 (by rfl) T.b_range (d_var 1)) (blkOk_by (by first | (dsimp only [cxOf, Cx.wish, Cx.blk, envOfC, compEnvC]; decide +kernel) | rfl)) (by decide) (fun _ _ _ _ _ => (g_name (i := 3) sc_law_units_hold.nd rfl (by first | exact Or.inl rfl | exact Or.inr rfl))) (fun _ _ _ _ _ => ts_nil) (fun _ _ _ _ _ => (d_tyc call_tuple_of s_tuple (by rfl) T.b_tuple (by decide +kernel) (d_cons (d_L (l_lc (own := [("k", 4)]) rfl sc_law_units_hold.nd (i_r1 (by rfl) T.b_range (d_var 2)) (blkOk_by (by first | (dsimp only [cxOf, Cx.wish, Cx.blk, envOfC, compEnvC]; decide +kernel) | rfl)) (by decide) (fun _ _ _ _ _ => (g_name (i := 4) sc_law_units_hold.nd rfl (by first | exact Or.inl rfl | exact Or.inr rfl))) (fun _ _ _ _ _ => ts_nil) (fun _ _ _ _ _ => d_int))) d_nil))))) d_nil)) (nomark _)) (z_one (z_ret d_bl)) z_nil)
  (z_cons (z_if (t_cmp (op_eqDD hr.units) s_eq (d_var 1) d_int (nomark _)) (z_one (z_ret d_bl)) z_nil)
  (z_cons (z_set (i := 3) sc_law_units_hold.nd rfl (by first | exact Or.inl rfl | exact Or.inr rfl) (d_cal C_law_take (hr.mono (by decide)) (by rfl) (d_cons (d_var 0) (d_cons (d_var 1) d_nil))))
  (z_one (z_ret (d_cmp (op_eqDD hr.units) s_eq (d_cal C_unit_row (hr.mono (by decide)) (by rfl) (d_cons (d_var 1) (d_cons (d_var 3) d_nil))) (d_tyc call_tuple_of s_tuple (by rfl) T.b_tuple (by decide +kernel) (d_cons (d_L (l_lc (own := [("k", 4)]) rfl sc_law_units_hold.nd (i_r1 (by rfl) T.b_range (d_var 1)) (blkOk_by (by first | (dsimp only [cxOf, Cx.wish, Cx.blk, envOfC, compEnvC]; decide +kernel) | rfl)) (by decide) (fun _ _ _ _ _ => (g_name (i := 4) sc_law_units_hold.nd rfl (by first | exact Or.inl rfl | exact Or.inr rfl))) (fun _ _ _ _ _ => ts_nil) (fun _ _ _ _ _ => (d_tyc call_int1 s_int (by rfl) T.b_int (by decide +kernel) (d_cons (d_cmp (op_eqDD hr.units) s_eq (d_var 3) (d_var 4) (nomark _)) d_nil))))) d_nil)) (nomark _)))))))))
abbrev fn_law : Stmt := topS 24
theorem sc_law : FnScope ["script", "state", "value", "good", "numbers", "by", "due", "k", "c"] ["script"] (defScope fn_law) := ⟨rfl, rfl, rfl, by decide +kernel, rfl, by decide +kernel, by decide +kernel⟩
theorem ok_law {f : Addr} {fd : FuncData} (F : Fun K "law" "law" fn_law f fd) (T : Blt K mg) (C_law_combined : Cal P w K mg base "_law_combined" 3 1 m_law_combined) (C_law_divisor : Cal P w K mg base "_law_divisor" 2 1 m_law_divisor) (C_law_number : Cal P w K mg base "_law_number" 2 1 m_law_number) (C_law_rows_hold : Cal P w K mg base "_law_rows_hold" 4 1 m_law_rows_hold) (C_law_says : Cal P w K mg base "_law_says" 1 2 m_law_says) (C_law_state : CalL P w K mg base "_law_state" 1 1 m_law_state) (C_law_strange : Cal P w K mg base "_law_strange" 2 2 m_law_strange) (C_law_take : Cal P w K mg base "_law_take" 1 2 m_law_take) (C_law_units_hold : Cal P w K mg base "_law_units_hold" 3 1 m_law_units_hold) (C_common_divisor : Cal P w K mg base "common_divisor" 1 1 m_common_divisor) (C_is_integer : Cal P w K mg base "is_integer" 1 1 m_is_integer) : FnOk P w K mg base CX0 5 f fd ["script"] (spD K mg 1 m_law) := by
  refine def_ok' (b := b_law) (n := 9) (np := 1) F sc_law rfl rfl rfl fun cdv A outer s H E hr => ?_
  unfold b_law
  exact (z_cons (z_new (i := 1) sc_law.nd rfl (by first | exact Or.inl rfl | exact Or.inr rfl) (l_cal C_law_state (hr.mono (by decide)) (by rfl) (d_cons (d_var 0) d_nil)))
  (z_cons (z_tup (d_cal C_law_strange (hr.mono (by decide)) (by rfl) (d_cons (d_var 1) (d_cons (d_cal C_law_number (hr.mono (by decide)) (by rfl) (d_cons (d_var 1) d_nil)) d_nil))) (g_tup rfl (g_cons (i := 2) sc_law.nd rfl (by first | exact Or.inl rfl | exact Or.inr rfl) (g_cons (i := 3) sc_law.nd rfl (by first | exact Or.inl rfl | exact Or.inr rfl) g_nil))))
  (z_cons (z_if (t_not (t_val (d_cal C_law_says (hr.mono (by decide)) (by rfl) (d_cons (d_cal C_is_integer (hr.mono (by decide)) (by rfl) (d_cons (d_var 2) d_nil)) (d_cons (d_var 3) d_nil))))) (z_one (z_ret d_bl)) z_nil)
  (z_cons (z_tA (lc_set (i := 4) (own := [("k", 7)]) rfl sc_law.nd rfl rfl (sw_true rfl rfl rfl (by decide +kernel)) (i_r1 (by rfl) T.b_range (d_cal C_law_take (hr.mono (by decide)) (by rfl) (d_cons (d_var 1) (d_cons d_int d_nil)))) (blkOk_by (by first | (dsimp only [cxOf, Cx.wish, Cx.blk, envOfC, compEnvC]; decide +kernel) | rfl)) (by decide) (fun _ _ _ _ _ => (g_name (i := 7) sc_law.nd rfl (by first | exact Or.inl rfl | exact Or.inr rfl))) (fun _ _ _ _ _ => ts_nil) (fun _ _ _ _ _ => (d_cal C_law_number (hr.mono (by decide)) (by rfl) (d_cons (d_var 1) d_nil)))))
  (z_cons (z_set (i := 5) sc_law.nd rfl (by first | exact Or.inl rfl | exact Or.inr rfl) (d_op op_addD s_add d_int (d_cal C_law_take (hr.mono (by decide)) (by rfl) (d_cons (d_var 1) (d_cons d_int d_nil)))))
  (z_cons (z_if (t_cmp (op_eqDD hr.units) s_eq (d_cal C_law_take (hr.mono (by decide)) (by rfl) (d_cons (d_var 1) (d_cons d_int d_nil))) d_int (nomark _)) (z_one (z_tA (lc_set (i := 4) (own := [("c", 8)]) rfl sc_law.nd rfl rfl (sw_true rfl rfl rfl (by decide +kernel)) (i_seq (d_var 4)) (blkOk_by (by first | (dsimp only [cxOf, Cx.wish, Cx.blk, envOfC, compEnvC]; decide +kernel) | rfl)) (by decide) (fun _ _ _ _ _ => (g_name (i := 8) sc_law.nd rfl (by first | exact Or.inl rfl | exact Or.inr rfl))) (fun _ _ _ _ _ => ts_nil) (fun _ _ _ _ _ => (d_op op_mulD s_mul (d_var 5) (d_var 8)))))) z_nil)
  (z_cons (z_set (i := 6) sc_law.nd rfl (by first | exact Or.inl rfl | exact Or.inr rfl) (d_cal C_law_divisor (hr.mono (by decide)) (by rfl) (d_cons (d_var 4) d_nil)))
  (z_cons (z_if (PW.pt (w_or (t_cmp (op_neDD hr.units) s_ne (d_cal C_common_divisor (hr.mono (by decide)) (by rfl) (d_cons (d_var 4) d_nil)) (d_var 6) (nomark _)) (w_or1 (t_cmp (op_neDD hr.units) s_ne (d_cal C_common_divisor (hr.mono (by decide)) (by rfl) (d_cons (d_tyc call_tuple_of s_tuple (by rfl) T.b_tuple (by decide +kernel) (d_cons (d_var 4) d_nil)) d_nil)) (d_var 6) (nomark _))))) (z_one (z_ret d_bl)) z_nil)
  (z_one (z_ret (d_and (d_cal C_law_combined (hr.mono (by decide)) (by rfl) (d_cons (d_var 1) d_nil)) (d_and (d_cal C_law_rows_hold (hr.mono (by decide)) (by rfl) (d_cons (d_var 1) d_nil)) (d_one (d_cal C_law_units_hold (hr.mono (by decide)) (by rfl) (d_cons (d_var 1) d_nil)))))))))))))))
end
end K00

namespace K00
open PySem L2 DL
/-! ### the program's defs -/
/-- one unit row -/
theorem map_row {α : Type} (f : α → Int) (l : List α) : (D.tup (l.map fun i => D.int (f i))) = row (l.map f) := by
  unfold row; rw [List.map_map]; rfl
def matOf (R : D) (rs : List (List Int)) : Prop := R = .lst (rs.map row) ∨ R = .tup (rs.map row)
def unitZ (n i : Nat) : List Int := (List.range n).map fun k => if k = i then 1 else 0
theorem p_unit_row {n i : Nat} (hn : n ≤ 1000) : m_unit_row [.int n, .int i] = ret (row (unitZ n i)) := by
  refine runP_ret rfl (sR_ret (eB_ret (aC_ret (eL_ret (lLc_r1 (fun k => .int (if k = i then 1 else 0)) (eV_at rfl) (by omega) fun k hk => ⟨eB_ret (aC_ret (e2_ret (eV_at rfl) (eV_at rfl) rfl) aN_ret) ?_, rfl⟩)) aN_ret) ?_) rfl)
  · show dInt (.bl (decide ((k : Int) = (i : Int)))) = _
    by_cases h : k = i
    · rw [if_pos h, decide_eq_true (by omega)]; rfl
    · rw [if_neg h, decide_eq_false (by omega)]; rfl
  · unfold unitZ; rw [← map_row]; rfl
theorem p_unit_matrix {n : Nat} (hn : n ≤ 1000) : m_unit_matrix [.int n] = ret (.tup ((List.range n).map fun i => row (unitZ n i))) :=
  runP_ret rfl (sR_ret (eB_ret (aC_ret (eL_ret (lLc_r1 (fun i => row (unitZ n i)) (eV_at rfl) (by omega) fun k hk => ⟨eFn_ret (aC_ret (eV_at rfl) (aC_ret (eV_at rfl) aN_ret)) rfl (p_unit_row hn), rfl⟩)) aN_ret) rfl) rfl)
theorem mul_sm {a b : Int} (ha : sm a) (hb : sm b) : dMul (.int a) (.int b) = some (.int (a * b)) := by
  show (if mulOk a b then some (D.int (a * b)) else none) = _
  rw [if_pos (mulOk_sm ha hb)]
/-! ### the law's draws -/
def St (S : List D) : Prop := ∃ s t : Int, S = [.int s, .int t] ∧ 0 ≤ s ∧ 0 ≤ t ∧ t < 2147483647
theorem mul_lit {a b : Int} (h : -(2 ^ 64) < b) (h2 : b < 2 ^ 64) : dMul (.int a) (.int b) = some (.int (a * b)) := by
  show (if mulOk a b then some (D.int (a * b)) else none) = _
  rw [if_pos (by unfold mulOk; rw [Bool.or_eq_true]; exact .inr (by rw [decide_eq_true h, decide_eq_true h2]; rfl))]
theorem mod_pos {a b : Int} (h : 0 < b) : dMod (.int a) (.int b) = some (.int (a % b)) := by
  unfold dMod
  exact if_pos h
theorem fdiv_pos {a b : Int} (h : 0 < b) (h2 : b.natAbs.log2 < 9000) : dFdiv (.int a) (.int b) = some (.int (a / b)) := by
  unfold dFdiv
  exact if_pos ⟨h, h2⟩
theorem p_law_state (ns : List Int) (S : List D) : wp (m_law_state [.scr (ns.map D.int)]) S fun xs S' => S' = S ∧ St xs := by
  refine runLP_wp rfl ?_
  refine wp_Seq (wp_sA (wp_C ⟨rfl, wp_Seq (wp_sA (wp_C ⟨rfl, ?_⟩))⟩))
  refine wp_Seq (wp_For ?_)
  have hcut : eCut oN (oS (eC (.int 63))) (eV 0) [some (D.scr (ns.map D.int)), some (.int 0), some (.int 1), none] = ret (.lst (cutD (ns.map D.int) none (some 63))) := rfl
  refine wp.of (iSq_ret hcut (.inl rfl)) ?_
  have hmem : ∀ x ∈ cutD (ns.map D.int) none (some 63), ∃ z : Int, x = .int z := fun x hx => by
    unfold cutD at hx
    have := List.mem_of_mem_drop (List.mem_of_mem_take hx)
    obtain ⟨z, _, rfl⟩ := List.mem_map.mp this
    exact ⟨z, rfl⟩
  have hlen : (cutD (ns.map D.int) none (some 63)).length ≤ 63 := by
    unfold cutD
    rw [List.length_take]
    have : HT.sIx (ns.map D.int).length (ns.map D.int).length (some 63) ≤ 63 := by
      unfold HT.sIx; simp; omega
    omega
  refine ⟨by omega, ?_⟩
  refine wp_forD (fun _ ρ S' => S' = S ∧ ∃ (s t : Int) (o : Option D), ρ = [some (D.scr (ns.map D.int)), some (.int s), some (.int t), o] ∧ 0 ≤ s ∧ 0 ≤ t ∧ t < 2147483647) _ 0 _ S ⟨rfl, 0, 1, none, rfl, by omega, by omega, by omega⟩ ?_ ?_
  · rintro i x ρ S' hx ⟨rfl, s, t, o, rfl, h1, h2, h3⟩
    obtain ⟨z, rfl⟩ := hmem x (List.mem_of_getElem? hx)
    refine ⟨_, rfl, ?_⟩
    refine wp_Seq (wp_sA (wp_2 (wp_2 (wp_V rfl (wp_C ⟨_, mul_lit (by omega) (by omega), ?_⟩)))))
    refine wp_B (wp_A (wp_V rfl (wp_N ⟨.int (if z < 0 then -z else z), rfl, ?_⟩)))
    refine ⟨_, rfl, rfl, ?_⟩
    refine wp_sA (wp_2 (wp_B (wp_A (wp_2 (wp_2 (wp_V rfl (wp_C ⟨_, mul_lit (by omega) (by omega), wp_V rfl ⟨_, rfl, wp_N ⟨.int (t * 48271 + z), rfl, wp_C ⟨_, mod_pos (by omega), ?_⟩⟩⟩⟩)))))))
    refine ⟨rfl, rfl, s * 1000003 + (if z < 0 then -z else z), (t * 48271 + z) % 2147483647, some (.int z), rfl, ?_, Int.emod_nonneg _ (by omega), Int.emod_lt_of_pos _ (by omega)⟩
    split <;> omega
  · rintro ρ S' ⟨rfl, s, t, o, rfl, h1, h2, h3⟩
    refine wp_sRL (wp_lL (wp_A (wp_V rfl (wp_A (wp_V rfl (wp_N ?_))))))
    exact ⟨rfl, (show 2 ≤ big by decide), _, rfl, by rw [back_self], s, t, rfl, h1, h2, h3⟩
theorem back_st {s t : Int} {S' : List D} : back [.int s, .int t] S' = S' := rfl
theorem p_law_take {m : Int} {S : List D} (hs : St S) (hm : 0 < m) (hb : m.natAbs.log2 < 9000) : wp (m_law_take [.st, .int m]) S fun d S' => ∃ v : Int, d = .int v ∧ 0 ≤ v ∧ v < m ∧ St S' := by
  obtain ⟨s, t, rfl, h1, h2, h3⟩ := hs
  refine runP_wp rfl ?_
  refine wp_Seq (wp_sIf (wp_tV (wp_2 (wp_I (wp_V rfl (wp_C ⟨.int s, rfl, wp_C ⟨_, rfl, _, rfl, fun e => ?_, fun e => ?_⟩⟩))))))
  · have hpos : 0 < s := of_decide_eq_true e
    refine wp_Seq (wp_sA (wp_2 (wp_B (wp_A (wp_I (wp_V rfl (wp_C ⟨.int s, rfl, wp_N ⟨.int s, rfl, wp_V rfl ⟨_, mod_pos hm, rfl, ?_⟩⟩⟩)))))))
    refine wp_Seq (wp_SS rfl (wp_2 (wp_I (wp_V rfl (wp_C ⟨.int s, rfl, wp_V rfl ⟨_, fdiv_pos hm hb, wp_C ⟨0, 0, rfl, rfl, rfl, ?_⟩⟩⟩)))))
    refine wp_sR (wp_V rfl ⟨rfl, _, rfl, _, rfl, Int.emod_nonneg _ (by omega), Int.emod_lt_of_pos _ hm, s / m, t, rfl, Int.ediv_nonneg h1 (by omega), h2, h3⟩)
  · refine wp_Skip ?_
    refine wp_Seq (wp_SS rfl (wp_2 (wp_B (wp_A (wp_2 (wp_2 (wp_I (wp_V rfl (wp_C ⟨.int t, rfl, wp_C ⟨_, mul_lit (by omega) (by omega), wp_C ⟨_, rfl, wp_N ⟨.int (t * 48271 + 11), rfl, wp_C ⟨_, mod_pos (by omega), wp_C ⟨1, 1, rfl, rfl, rfl, ?_⟩⟩⟩⟩⟩⟩)))))))))
    have q1 := Int.emod_nonneg (t * 48271 + 11) (show (2147483647 : Int) ≠ 0 by omega)
    have q2 := Int.emod_lt_of_pos (t * 48271 + 11) (show (0 : Int) < 2147483647 by omega)
    refine wp_sR (wp_2 (wp_B (wp_A (wp_2 (wp_I (wp_V rfl (wp_C ⟨.int ((t * 48271 + 11) % 2147483647), rfl, wp_C ⟨_, fdiv_pos (by omega) (by decide), wp_N ⟨_, rfl, wp_V rfl ⟨_, mod_pos hm, rfl, _, rfl, ?_⟩⟩⟩⟩)))))))
    exact ⟨_, rfl, Int.emod_nonneg _ (by omega), Int.emod_lt_of_pos _ hm, s, (t * 48271 + 11) % 2147483647, rfl, h1, q1, q2⟩
/-! ### equality of data -/
mutual
theorem eqv_self : ∀ p : PyData, p.canLay0 = true → PyData.eqv p p = true
  | .none, _ => rfl
  | .bool b, _ => by simp [PyData.eqv]
  | .int i, _ => by simp [PyData.eqv]
  | .str x, _ => by simp [PyData.eqv]
  | .list xs, h => by rw [PyData.eqv]; exact eqvAll_self xs h
  | .tuple xs, h => by rw [PyData.eqv]; exact eqvAll_self xs h
  | .dict _, h => nomatch h
theorem eqvAll_self : ∀ ps : List PyData, PyData.canLayAll0 ps = true → PyData.eqvAll ps ps = true
  | [], _ => rfl
  | p :: ps, h => by
    have h' : p.canLay0 = true ∧ PyData.canLayAll0 ps = true := by simpa [PyData.canLayAll0] using h
    rw [PyData.eqvAll, eqv_self p h'.1, eqvAll_self ps h'.2]; rfl
end
/-- data of at most so many storeys -/
def okN (n : Nat) (d : D) : Prop := ∃ p, toPy d = some p ∧ p.canLay0 = true ∧ p.depth ≤ n
theorem okN_int (n : Nat) (i : Int) : okN n (.int i) := ⟨.int i, rfl, rfl, Nat.zero_le _⟩
theorem okN_all {n : Nat} : ∀ xs : List D, (∀ x ∈ xs, okN n x) → ∃ ps, toPys xs = some ps ∧ PyData.canLayAll0 ps = true ∧ PyData.depthAll ps ≤ n
  | [], _ => ⟨[], rfl, rfl, Nat.zero_le _⟩
  | x :: xs, h => by
    obtain ⟨p, h1, h2, h3⟩ := h x List.mem_cons_self
    obtain ⟨ps, h4, h5, h6⟩ := okN_all xs fun y hy => h y (List.mem_cons_of_mem _ hy)
    refine ⟨p :: ps, ?_, ?_, ?_⟩
    · unfold toPys; rw [h1, h4]
    · simp only [PyData.canLayAll0, h2, h5, Bool.and_self]
    · simp only [PyData.depthAll]; omega
theorem okN_tup {n : Nat} {xs : List D} (h : ∀ x ∈ xs, okN n x) : okN (n + 1) (.tup xs) := by
  obtain ⟨ps, h1, h2, h3⟩ := okN_all xs h
  refine ⟨.tuple ps, ?_, ?_, ?_⟩
  · unfold toPy; rw [h1]; rfl
  · simp only [PyData.canLay0, h2]
  · simp only [PyData.depth]; omega
theorem okN_lst {n : Nat} {xs : List D} (h : ∀ x ∈ xs, okN n x) : okN (n + 1) (.lst xs) := by
  obtain ⟨ps, h1, h2, h3⟩ := okN_all xs h
  refine ⟨.list ps, ?_, ?_, ?_⟩
  · unfold toPy; rw [h1]; rfl
  · simp only [PyData.canLay0, h2]
  · simp only [PyData.depth]; omega
theorem okN_row (n : Nat) (xs : List Int) : okN (n + 1) (row xs) := okN_tup fun x hx => by
  obtain ⟨i, _, rfl⟩ := List.mem_map.mp hx
  exact okN_int n i
theorem okN_tab (n : Nat) (rs : List (List Int)) : okN (n + 2) (.tup (rs.map row)) := okN_tup fun x hx => by
  obtain ⟨i, _, rfl⟩ := List.mem_map.mp hx
  exact okN_row n i
theorem okN_shaped {n : Nat} {d : D} (hn : n ≤ 64) (h : okN n d) : ∃ p, toPy d = some p ∧ SeqAt.shaped p = true := by
  obtain ⟨p, h1, h2, h3⟩ := h
  refine ⟨p, h1, ?_⟩
  unfold SeqAt.shaped
  rw [h2, decide_eq_true (by omega)]; rfl
theorem dEqB_self {n : Nat} {d : D} (hn : n ≤ 64) (h : okN n d) : dEqB d d = some true := by
  obtain ⟨p, h1, h2⟩ := okN_shaped hn h
  unfold dEqB
  rw [h1]
  dsimp only
  rw [h2, Bool.and_self, if_pos rfl, eqv_self p (SeqAt.canLay_of_shaped h2)]
theorem dEq_self {n : Nat} {d : D} (hn : n ≤ 64) (h : okN n d) : dEq d d = some (.bl true) := by
  unfold dEq
  split
  · rename_i i j; simp
  · rw [dEqB_self hn h]; rfl
theorem dNe_self {n : Nat} {d : D} (hn : n ≤ 64) (h : okN n d) : dNe d d = some (.bl false) := by
  unfold dNe
  split
  · rename_i i j; simp
  · rw [dEqB_self hn h]; rfl
/-- a text is no number, no row -/
theorem dEq_str {n : Nat} {d : D} {x : Str} (hn : n ≤ 64) (h : okN n d) (hx : PyData.canLay0 (.str x) = true) (hd : (∃ i, d = .int i) ∨ (∃ xs, d = .tup xs) ∨ ∃ xs, d = .lst xs) : dEq d (.str x) = some (.bl false) := by
  obtain ⟨p, h1, h2⟩ := okN_shaped hn h
  have hs : SeqAt.shaped (.str x) = true := by unfold SeqAt.shaped; rw [hx]; rfl
  have e : dEqB d (.str x) = some false := by
    unfold dEqB
    rw [h1]
    show (if (SeqAt.shaped p && SeqAt.shaped (.str x)) = true then some (PyData.eqv p (.str x)) else none) = _
    rw [h2, hs, Bool.and_self, if_pos rfl]
    rcases hd with ⟨i, rfl⟩ | ⟨xs, rfl⟩ | ⟨xs, rfl⟩
    · cases h1; rfl
    · unfold toPy at h1
      cases hq : toPys xs with
      | none => rw [hq] at h1; cases h1
      | some ps => rw [hq] at h1; cases h1; rfl
    · unfold toPy at h1
      cases hq : toPys xs with
      | none => rw [hq] at h1; cases h1
      | some ps => rw [hq] at h1; cases h1; rfl
  rcases hd with ⟨i, rfl⟩ | ⟨xs, rfl⟩ | ⟨xs, rfl⟩ <;> (show (dEqB _ _).map D.bl = _; rw [e]; rfl)
theorem lift_map {α : Type} (f : α → D) (p : α → Prop) : ∀ ys : List D, (∀ y ∈ ys, ∃ x, y = f x ∧ p x) → ∃ xs : List α, ys = xs.map f ∧ ∀ x ∈ xs, p x
  | [], _ => ⟨[], rfl, fun x h => by cases h⟩
  | y :: ys, h => by
    obtain ⟨x, rfl, hx⟩ := h y List.mem_cons_self
    obtain ⟨xs, rfl, hxs⟩ := lift_map f p ys fun z hz => h z (List.mem_cons_of_mem _ hz)
    exact ⟨x :: xs, rfl, fun z hz => by
      rcases List.mem_cons.mp hz with e | e
      · rw [e]; exact hx
      · exact hxs z e⟩
/-! ### common divisors -/
def gcdL (zs : List Int) : Nat := zs.foldl (fun f z => Nat.gcd f z.natAbs) 0
theorem abs_cast (z : Int) : (if z < 0 then -z else z) = (z.natAbs : Int) := by split <;> omega
/-- the loop a, b = b, a % b; its names stand at i, j -/
theorem wh_gcd {ρ0 : DE} {c : DE → M D} {i j : Nat} {a b : Nat} {S : List D} {Z : Fl → List D → Prop} (put : D → D → DE)
    (hi : ∀ x y, eV i (put x y) = ret x) (hj : ∀ x y, eV j (put x y) = ret y) (hs : ∀ x y x' y', ((put x y).set i (some x')).set j (some y') = put x' y')
    (hc : ∀ x : Nat, ∀ y, c (put (.int x) y) = ret (.int x)) (hz : Z (.nx (put (.int (Nat.gcd a b : Nat)) (.int 0))) S) :
    wp (sWh (tV (e2 dGt (eV j) (eC (.int 0)))) (sP i j (aC (eV j) (aC (e2 dMod c (eV j)) aN))) (put (.int a) (.int b))) S Z := by
  refine wp_Wh (fun n ρ S' => S' = S ∧ ∃ x y : Nat, ρ = put (.int x) (.int y) ∧ n = y ∧ Nat.gcd x y = Nat.gcd a b) (n := b) ⟨rfl, a, b, rfl, rfl, rfl⟩ ?_
  rintro n ρ S' ⟨rfl, x, y, rfl, rfl, hg⟩
  refine wp_tV <| wp_2 <| wp.of (hj _ _) <| wp_C ⟨_, rfl, _, rfl, fun e => ?_, fun e => ?_⟩
  · have hy : (0 : Int) < (n : Int) := of_decide_eq_true e
    refine wp_sP <| wp_A <| wp.of (hj _ _) <| wp_A <| wp_2 <| wp.of (hc _ _) <| wp.of (hj _ _) ⟨.int ((x : Int) % (n : Int)), ?_, wp_N ⟨_, _, rfl, rfl, rfl, x % n, Nat.mod_lt _ (by omega), rfl, n, x % n, ?_, rfl, ?_⟩⟩
    · unfold dMod; exact if_pos hy
    · rw [hs, Int.natCast_emod]
    · rw [← hg, Nat.gcd_comm n (x % n), ← Nat.gcd_rec, Nat.gcd_comm]
  · have hy : n = 0 := by
      have := of_decide_eq_false e
      omega
    subst hy
    rw [Nat.gcd_zero_right] at hg
    rw [hg]; exact hz
theorem p_law_common (a b : Nat) : m_law_common [.int a, .int b] = ret (.int (Nat.gcd a b : Nat)) := by
  refine ret_of_wp fun S => runP_wp rfl ?_
  refine wp_Seq <| wh_gcd (ρ0 := []) (fun x y => [some x, some y]) (fun _ _ => rfl) (fun _ _ => rfl) (fun _ _ _ _ => rfl) (fun _ _ => rfl) ?_
  exact wp_sR <| wp_V rfl ⟨rfl, _, rfl, rfl, back_self S⟩
theorem p_law_divisor (zs : List Int) (hn : zs.length ≤ 100000) : m_law_divisor [.lst (zs.map D.int)] = ret (.int (gcdL zs : Nat)) := by
  refine ret_of_wp fun S => runP_wp rfl ?_
  refine wp_Seq <| wp_sA <| wp_C ⟨rfl, ?_⟩
  refine wp_Seq <| wp_For <| wp.of (iSq_ret (eV_at rfl) (.inl rfl)) ⟨by rw [List.length_map]; exact hn, ?_⟩
  refine wp_forD (fun k ρ S' => S' = S ∧ ∃ o, ρ = [some (.lst (zs.map D.int)), some (.int (gcdL (zs.take k) : Nat)), o]) _ 0 _ S ⟨rfl, none, rfl⟩ ?_ ?_
  · rintro i x ρ S' hx ⟨rfl, o, rfl⟩
    rw [List.getElem?_map] at hx
    cases hz : zs[i]? with
    | none => rw [hz] at hx; cases hx
    | some z =>
      rw [hz] at hx; cases hx
      refine ⟨_, rfl, wp_sA <| wp_F <| wp_A <| wp_V rfl <| wp_A <| wp_B <| wp_A <| wp_V rfl <| wp_N ⟨_, rfl, wp_N ⟨rfl, ?_⟩⟩⟩
      rw [abs_cast]
      refine wp.of (p_law_common _ _) ⟨rfl, rfl, some (.int z), ?_⟩
      have e : zs.take (0 + i + 1) = zs.take (0 + i) ++ [z] := by
        rw [Nat.zero_add, List.take_add_one, hz]; rfl
      rw [e]
      unfold gcdL
      rw [List.foldl_append]; rfl
  · rintro ρ S' ⟨rfl, o, rfl⟩
    rw [Nat.zero_add, List.length_map, List.take_length]
    exact wp_sR <| wp_V rfl ⟨rfl, _, rfl, rfl, back_self _⟩
theorem p_common_divisor {R : D} {zs : List Int} (hR : R = .lst (zs.map D.int) ∨ R = .tup (zs.map D.int)) (hn : zs.length ≤ 100000) : m_common_divisor [R] = ret (.int (gcdL zs : Nat)) := by
  refine ret_of_wp fun S => runP_wp rfl ?_
  refine wp_Seq <| wp_sA <| wp_C ⟨rfl, ?_⟩
  refine wp_Seq <| wp_For <| wp.of (iSq_ret (eV_at rfl) (hR.elim .inl fun e => .inr (.inl e))) ⟨by rw [List.length_map]; exact hn, ?_⟩
  refine wp_forD (fun k ρ S' => S' = S ∧ ∃ o a b, ρ = [some R, some (.int (gcdL (zs.take k) : Nat)), o, a, b]) _ 0 _ S ⟨rfl, none, none, none, rfl⟩ ?_ ?_
  · rintro i x ρ S' hx ⟨rfl, o, a, b, rfl⟩
    rw [List.getElem?_map] at hx
    cases hz : zs[i]? with
    | none => rw [hz] at hx; cases hx
    | some z =>
      rw [hz] at hx; cases hx
      refine ⟨_, rfl, wp_Seq <| wp_sP <| wp_A <| wp_V rfl <| wp_A <| wp_B <| wp_A <| wp_V rfl <| wp_N ⟨_, rfl, wp_N ⟨_, _, rfl, rfl, rfl, ?_⟩⟩⟩
      rw [abs_cast]
      refine wp_Seq <| wh_gcd (ρ0 := []) (a := gcdL (zs.take (0 + i))) (b := z.natAbs) (i := 3) (j := 4) (fun x y => [some R, some (.int (gcdL (zs.take (0 + i)) : Nat)), some (.int z), some x, some y]) (fun _ _ => rfl) (fun _ _ => rfl) (fun _ _ _ _ => rfl) (fun _ _ => rfl) ?_
      refine wp_sA <| wp_V rfl ⟨rfl, rfl, some (.int z), some (.int (Nat.gcd (gcdL (zs.take (0 + i))) z.natAbs : Nat)), some (.int 0), ?_⟩
      have e : zs.take (0 + i + 1) = zs.take (0 + i) ++ [z] := by
        rw [Nat.zero_add, List.take_add_one, hz]; rfl
      rw [e]
      have e2 : gcdL (zs.take (0 + i) ++ [z]) = Nat.gcd (gcdL (zs.take (0 + i))) z.natAbs := by
        unfold gcdL
        rw [List.foldl_append]; rfl
      rw [e2]; rfl
  · rintro ρ S' ⟨rfl, o, a, b, rfl⟩
    rw [Nat.zero_add, List.length_map, List.take_length]
    exact wp_sR <| wp_V rfl ⟨rfl, _, rfl, rfl, back_self _⟩
/-! ### combination -/
/-- floor division with its rest -/
theorem fd_some (a b : Int) (hb : b ≠ 0) (h9 : b.natAbs.log2 < 9000) : ∃ q : Int, dFdiv (.int a) (.int b) = some (.int q) ∧ (a - q * b).natAbs < b.natAbs ∧ (0 < b → 0 ≤ a - q * b) ∧ (b < 0 → a - q * b ≤ 0) ∧ (0 < b → 0 ≤ a → 0 ≤ q) ∧ (b < 0 → a ≤ 0 → 0 ≤ q) := by
  by_cases hp : 0 < b
  · refine ⟨a / b, by unfold dFdiv; exact if_pos ⟨hp, h9⟩, ?_⟩
    have h1 := Int.emod_nonneg a (show b ≠ 0 by omega)
    have h2 := Int.emod_lt_of_pos a hp
    have h3 : a - a / b * b = a % b := by
      have := Int.mul_ediv_add_emod a b
      rw [Int.mul_comm] at this; omega
    rw [h3]
    exact ⟨by omega, fun _ => h1, fun h => by omega, fun _ h => Int.ediv_nonneg h (by omega), fun h => by omega⟩
  · have hn : b < 0 := by omega
    have e : a.fdiv b = (-a) / (-b) := by
      rw [← Int.neg_fdiv_neg, Int.fdiv_eq_ediv_of_nonneg _ (by omega)]
    refine ⟨a.fdiv b, ?_, ?_⟩
    · unfold dFdiv
      show (if 0 < b ∧ _ then _ else _) = _
      rw [if_neg (fun h => by omega)]
      exact if_pos ⟨hn, h9⟩
    · rw [e]
      have h1 := Int.emod_nonneg (-a) (show -b ≠ 0 by omega)
      have h2 := Int.emod_lt_of_pos (-a) (show 0 < -b by omega)
      have h3 : a - (-a) / (-b) * b = -((-a) % (-b)) := by
        have h := Int.mul_ediv_add_emod (-a) (-b)
        have h' : -b * ((-a) / (-b)) = -((-a) / (-b) * b) := by rw [Int.neg_mul, Int.mul_comm]
        rw [h'] at h
        omega
      rw [h3]
      exact ⟨by omega, fun h => by omega, fun _ => by omega, fun h => by omega, fun _ h => Int.ediv_nonneg (by omega) (by omega)⟩
/-- the same sign -/
def sgn (a b : Int) : Prop := (0 < a ∧ 0 ≤ b) ∨ (a < 0 ∧ b ≤ 0)
theorem sgn_sum {a b q : Int} (h : sgn a b) (hb : b ≠ 0) (h1 : 0 < b → 0 ≤ a - q * b) (h2 : b < 0 → a - q * b ≤ 0) (h3 : 0 < b → 0 ≤ a → 0 ≤ q) (h4 : b < 0 → a ≤ 0 → 0 ≤ q) : q.natAbs * b.natAbs + (a - q * b).natAbs = a.natAbs := by
  rw [← Int.natAbs_mul]
  rcases h with ⟨ha, hb'⟩ | ⟨ha, hb'⟩
  · have hp : 0 < b := by omega
    have : 0 ≤ q * b := Int.mul_nonneg (h3 hp (by omega)) (by omega)
    have := h1 hp
    omega
  · have hp : b < 0 := by omega
    have : q * b ≤ 0 := Int.mul_nonpos_of_nonneg_of_nonpos (h4 hp (by omega)) (by omega)
    have := h2 hp
    omega
/-- what is known of one pair of multiples -/
def cof (C : Nat) (a b x0 x1 : Int) : Prop := x1.natAbs * a.natAbs + x0.natAbs * b.natAbs ≤ C ∧ x0.natAbs ≤ C ∧ x1.natAbs ≤ C
theorem cof_step {C : Nat} {a b x0 x1 q : Int} (h : cof C a b x0 x1) (ha : a ≠ 0) (hb : b ≠ 0) (hs : q.natAbs * b.natAbs + (a - q * b).natAbs = a.natAbs) : cof C b (a - q * b) x1 (x0 - q * x1) := by
  obtain ⟨h1, h2, h3⟩ := h
  have t : (x0 - q * x1).natAbs ≤ x0.natAbs + q.natAbs * x1.natAbs := by
    rw [← Int.natAbs_mul]; omega
  have b1 : 1 ≤ b.natAbs := by omega
  have k1 : (x0 - q * x1).natAbs * b.natAbs + x1.natAbs * (a - q * b).natAbs ≤ C := by
    calc (x0 - q * x1).natAbs * b.natAbs + x1.natAbs * (a - q * b).natAbs
        ≤ (x0.natAbs + q.natAbs * x1.natAbs) * b.natAbs + x1.natAbs * (a - q * b).natAbs := Nat.add_le_add_right (Nat.mul_le_mul_right _ t) _
      _ = x1.natAbs * (q.natAbs * b.natAbs + (a - q * b).natAbs) + x0.natAbs * b.natAbs := by
          rw [Nat.add_mul, Nat.mul_add, Nat.mul_comm q.natAbs x1.natAbs, Nat.mul_assoc]; omega
      _ = x1.natAbs * a.natAbs + x0.natAbs * b.natAbs := by rw [hs]
      _ ≤ C := h1
  refine ⟨k1, h3, ?_⟩
  have : (x0 - q * x1).natAbs * 1 ≤ (x0 - q * x1).natAbs * b.natAbs := Nat.mul_le_mul_left _ b1
  omega
def tri (x y z : Int) : D := .tup [.int x, .int y, .int z]
theorem tri_row (x y z : Int) : tri x y z = row [x, y, z] := rfl
structure CInv (B : Nat) (a b r0 s0 t0 r1 s1 t1 : Int) : Prop where
  e0 : r0 = a * s0 + b * t0
  e1 : r1 = a * s1 + b * t1
  g : Int.gcd r0 r1 = Int.gcd a b
  b0 : r0.natAbs ≤ B
  b1 : r1.natAbs ≤ B
  cs : s0.natAbs ≤ 4 * B ∧ s1.natAbs ≤ 4 * B ∧ t0.natAbs ≤ 4 * B ∧ t1.natAbs ≤ 4 * B
  st : (r0 = a ∧ r1 = b ∧ s0 = 1 ∧ t0 = 0 ∧ s1 = 0 ∧ t1 = 1) ∨ (sgn r0 r1 ∧ cof (4 * B) r0 r1 s0 s1 ∧ cof (4 * B) r0 r1 t0 t1)
theorem cinv_step {B : Nat} {a b r0 s0 t0 r1 s1 t1 q : Int} (hB : 1 ≤ B) (ha : a.natAbs ≤ B) (hb : b.natAbs ≤ B) (I : CInv B a b r0 s0 t0 r1 s1 t1) (hr : r1 ≠ 0) (h0 : (r0 - q * r1).natAbs < r1.natAbs)
    (h1 : 0 < r1 → 0 ≤ r0 - q * r1) (h2 : r1 < 0 → r0 - q * r1 ≤ 0) (h3 : 0 < r1 → 0 ≤ r0 → 0 ≤ q) (h4 : r1 < 0 → r0 ≤ 0 → 0 ≤ q) : CInv B a b r1 s1 t1 (r0 - q * r1) (s0 - q * s1) (t0 - q * t1) := by
  have hsg : sgn r1 (r0 - q * r1) := by
    unfold sgn
    rcases Int.lt_or_gt_of_ne hr with h | h
    · exact .inr ⟨h, h2 h⟩
    · exact .inl ⟨h, h1 h⟩
  have fin : cof (4 * B) r1 (r0 - q * r1) s1 (s0 - q * s1) ∧ cof (4 * B) r1 (r0 - q * r1) t1 (t0 - q * t1) := by
    rcases I.st with ⟨e1, e2, e3, e4, e5, e6⟩ | ⟨hs, c1, c2⟩
    · subst e1 e2 e3 e4 e5 e6
      have qb : q.natAbs * r1.natAbs ≤ 2 * B := by
        rw [← Int.natAbs_mul]; omega
      have q1 : q.natAbs ≤ q.natAbs * r1.natAbs := Nat.le_mul_of_pos_right _ (by omega)
      constructor
      · refine ⟨?_, by omega, by omega⟩
        simp only [Int.mul_zero, Int.sub_zero]
        have e1 : (1 : Int).natAbs = 1 := rfl
        have e0 : (0 : Int).natAbs = 0 := rfl
        rw [e1, e0]
        omega
      · refine ⟨?_, by omega, by omega⟩
        simp only [Int.mul_one, Int.zero_sub, Int.natAbs_neg]
        have : (1 : Int).natAbs = 1 := rfl
        rw [this]
        omega
    · have hs' := sgn_sum hs hr h1 h2 h3 h4
      have hr0 : r0 ≠ 0 := by rcases hs with h | h <;> omega
      exact ⟨cof_step c1 hr0 hr hs', cof_step c2 hr0 hr hs'⟩
  refine ⟨I.e1, ?_, ?_, I.b1, ?_, ⟨I.cs.2.1, fin.1.2.2, I.cs.2.2.2, fin.2.2.2⟩, .inr ⟨hsg, fin.1, fin.2⟩⟩
  · rw [I.e0, I.e1]
    simp only [Int.mul_sub, Int.mul_add]
    have x1 : q * (a * s1) = a * (q * s1) := by rw [Int.mul_left_comm]
    have x2 : q * (b * t1) = b * (q * t1) := by rw [Int.mul_left_comm]
    rw [x1, x2]; omega
  · rw [Int.gcd_sub_mul_right_right, Int.gcd_comm]; exact I.g
  · have := I.b1; omega
theorem p_combination {a b : Int} {B : Nat} (hB : 1 ≤ B) (ha : a.natAbs ≤ B) (hb : b.natAbs ≤ B) (h2 : 4 * B < 2 ^ 400) : ∀ S, wp (m_combination [.int a, .int b]) S fun d S' => (∃ x y : Int, d = tri (Int.gcd a b) x y ∧ a * x + b * y = Int.gcd a b ∧ x.natAbs ≤ 4 * B ∧ y.natAbs ≤ 4 * B) ∧ S' = S := by
  have hsm : ∀ z : Int, z.natAbs ≤ 4 * B → sm z := fun z hz => sm_of (n := 400) (by omega) (by omega)
  intro S
  · skip
    refine runP_wp rfl ?_
    refine wp_Seq <| wp_sP <| wp_A <| wp_T <| wp_A <| wp_V rfl <| wp_A <| wp_C <| wp_A <| wp_C <| wp_N ⟨rfl, (show 3 ≤ big by decide), wp_A <| wp_T <| wp_A <| wp_V rfl <| wp_A <| wp_C <| wp_A <| wp_C <| wp_N ⟨rfl, (show 3 ≤ big by decide), wp_N ⟨_, _, rfl, rfl, rfl, ?_⟩⟩⟩
    refine wp_Seq <| wp_Wh (fun n ρ S' => S' = S ∧ ∃ (r0 s0 t0 r1 s1 t1 : Int) (o p : Option D), ρ = [some (.int a), some (.int b), some (tri r0 s0 t0), some (tri r1 s1 t1), o, p] ∧ n = r1.natAbs ∧ CInv B a b r0 s0 t0 r1 s1 t1) (n := b.natAbs)
      ⟨rfl, a, 1, 0, b, 0, 1, none, none, rfl, rfl, ⟨by simp, by simp, rfl, ha, hb, ⟨by omega, by omega, by omega, by omega⟩, .inl ⟨rfl, rfl, rfl, rfl, rfl, rfl⟩⟩⟩ ?_
    rintro n ρ S' ⟨rfl, r0, s0, t0, r1, s1, t1, o, p, rfl, rfl, I⟩
    refine wp_tV <| wp_2 <| wp_I <| wp_V rfl <| wp_C ⟨.int r1, rfl, wp_C ⟨_, rfl, _, rfl, fun e => ?_, fun e => ?_⟩⟩
    · have hr : r1 ≠ 0 := by
        intro h
        subst h
        exact absurd e (by decide)
      have hl9 : r1.natAbs.log2 < 9000 := by
        have := I.b1
        have := (Nat.log2_lt (k := 400) (show r1.natAbs ≠ 0 by omega)).mpr (by omega)
        omega
      obtain ⟨q, hq, f0, f1, f2, f3, f4⟩ := fd_some r0 r1 hr hl9
      have hqb : q.natAbs ≤ 4 * B := by
        have q1 : q.natAbs ≤ q.natAbs * r1.natAbs := Nat.le_mul_of_pos_right _ (by omega)
        have q2 : q.natAbs * r1.natAbs ≤ 2 * B := by
          have := I.b0
          have := I.b1
          rw [← Int.natAbs_mul]; omega
        omega
      have sq := hsm q hqb
      have sr := hsm r1 (by have := I.b1; omega)
      have ss := hsm s1 I.cs.2.1
      have st := hsm t1 I.cs.2.2.2
      refine wp_Seq <| wp_sA <| wp_2 <| wp_I <| wp_V rfl <| wp_C ⟨.int r0, rfl, wp_I <| wp_V rfl <| wp_C ⟨.int r1, rfl, _, hq, rfl, ?_⟩⟩
      refine wp_Seq <| wp_sA <| wp_T <| wp_A <| wp_2 <| wp_I <| wp_V rfl <| wp_C ⟨.int r0, rfl, wp_2 <| wp_V rfl <| wp_I <| wp_V rfl <| wp_C ⟨.int r1, rfl, _, mul_sm sq sr, _, rfl, ?_⟩⟩
      refine wp_A <| wp_2 <| wp_I <| wp_V rfl <| wp_C ⟨.int s0, rfl, wp_2 <| wp_V rfl <| wp_I <| wp_V rfl <| wp_C ⟨.int s1, rfl, _, mul_sm sq ss, _, rfl, ?_⟩⟩
      refine wp_A <| wp_2 <| wp_I <| wp_V rfl <| wp_C ⟨.int t0, rfl, wp_2 <| wp_V rfl <| wp_I <| wp_V rfl <| wp_C ⟨.int t1, rfl, _, mul_sm sq st, _, rfl, ?_⟩⟩
      refine wp_N ⟨rfl, (show 3 ≤ big by decide), rfl, ?_⟩
      refine wp_sP <| wp_A <| wp_V rfl <| wp_A <| wp_V rfl <| wp_N ⟨_, _, rfl, rfl, rfl, (r0 - q * r1).natAbs, f0, rfl, r1, s1, t1, r0 - q * r1, s0 - q * s1, t0 - q * t1, some (.int q), some (tri (r0 - q * r1) (s0 - q * s1) (t0 - q * t1)), rfl, rfl, cinv_step hB ha hb I hr f0 f1 f2 f3 f4⟩
    · have hr : r1 = 0 := by
        have : (!decide (r1 = 0)) = false := e
        simpa using this
      subst hr
      have hg : (r0.natAbs : Int) = Int.gcd a b := by rw [← I.g, Int.gcd_zero_right]
      refine wp_Seq <| wp_sIf <| wp_tV <| wp_2 <| wp_I <| wp_V rfl <| wp_C ⟨.int r0, rfl, wp_C ⟨_, rfl, _, rfl, fun h => ?_, fun h => ?_⟩⟩
      · have hn : r0 < 0 := of_decide_eq_true h
        refine wp_sA <| wp_T <| wp_A <| wp_1 <| wp_I <| wp_V rfl <| wp_C ⟨.int r0, rfl, _, rfl, wp_A <| wp_1 <| wp_I <| wp_V rfl <| wp_C ⟨.int s0, rfl, _, rfl, wp_A <| wp_1 <| wp_I <| wp_V rfl <| wp_C ⟨.int t0, rfl, _, rfl, wp_N ⟨rfl, (show 3 ≤ big by decide), rfl, ?_⟩⟩⟩⟩
        refine wp_sR <| wp_V rfl ⟨rfl, _, rfl, ⟨-s0, -t0, ?_, ?_, by rw [Int.natAbs_neg]; exact I.cs.1, by rw [Int.natAbs_neg]; exact I.cs.2.2.1⟩, back_self _⟩
        · rw [← hg, show (r0.natAbs : Int) = -r0 by omega]; rfl
        · rw [← hg, show (r0.natAbs : Int) = -r0 by omega, I.e0, Int.mul_neg, Int.mul_neg]; omega
      · have hn : ¬ r0 < 0 := of_decide_eq_false h
        refine wp_Skip <| wp_sR <| wp_V rfl ⟨rfl, _, rfl, ⟨s0, t0, ?_, ?_, I.cs.1, I.cs.2.2.1⟩, back_self _⟩
        · rw [← hg, show (r0.natAbs : Int) = r0 by omega]
        · rw [← hg, show (r0.natAbs : Int) = r0 by omega, I.e0]
/-! ### forms -/
/-- values that is_integer is asked of -/
def okV : D → Bool
  | .non => true
  | .bl _ => true
  | .int _ => true
  | .str _ => true
  | .lst _ => true
  | .tup _ => true
  | .exn _ => true
  | _ => false
def si : D → Bool
  | .int _ => true
  | _ => false
theorem okV_dat {v : D} (h : okV v = true) : dat v = true ∧ noMu [v] = true := by
  cases v <;> first | exact ⟨rfl, rfl⟩ | cases h
theorem okV_mu {v : D} {ds : List D} (h : okV v = true) (hd : noMu ds = true) : noMu (v :: ds) = true := by
  cases v <;> first | exact hd | cases h
theorem p_is_integer {v : D} (h : okV v = true) : m_is_integer [v] = ret (.bl (si v)) := by
  cases v <;> first | (cases h; done) | exact runP_ret rfl rfl
theorem boolsOf_map (xs : List Bool) : boolsOf (xs.map D.bl) = some xs := by
  induction xs with
  | nil => rfl
  | cons x xs ih => rw [List.map_cons]; unfold boolsOf; rw [ih]; rfl
theorem dAll_map {α : Type} (f : α → Bool) (xs : List α) : dAll (.lst (xs.map fun x => D.bl (f x))) = some (.bl (xs.all f)) := by
  have : (xs.map fun x => D.bl (f x)) = (xs.map f).map D.bl := by rw [List.map_map]; rfl
  rw [this]
  show (boolsOf ((xs.map f).map D.bl)).map (fun bs => D.bl (bs.all id)) = _
  rw [boolsOf_map]
  show some (D.bl _) = _
  rw [List.all_map]; rfl
def rowB (v : D) (n : Nat) : Bool := match v with
  | .tup xs => decide (xs.length = n) && xs.all si
  | _ => false
theorem p_is_row {v : D} {n : Nat} (h : okV v = true) (hx : ∀ xs, v = .tup xs → (∀ x ∈ xs, okV x = true) ∧ xs.length ≤ 1000) : m_is_row [v, .int n] = ret (.bl (rowB v n)) := by
  cases v <;> first | (cases h; done) | exact runP_ret rfl rfl | skip
  rename_i xs
  obtain ⟨ho, hl⟩ := hx xs rfl
  refine ret_of_wp fun S => runP_wp rfl ?_
  refine wp_Seq <| wp_sIf <| wp_tOr <| wp_tNo <| wp_tV <| wp_B <| wp_A <| wp_V rfl <| wp_A <| wp_C <| wp_N ⟨.bl true, rfl, _, rfl, fun _ => ?_, fun e => by cases e⟩
  refine wp_tV <| wp_2 <| wp_B <| wp_A <| wp_V rfl <| wp_N ⟨.int (xs.length : Nat), rfl, wp_V rfl ⟨_, rfl, _, rfl, fun e => ?_, fun e => ?_⟩⟩
  · have hne : xs.length ≠ n := by
      intro h
      rw [h, decide_eq_true rfl] at e
      cases e
    refine wp_sR <| wp_C ⟨rfl, _, rfl, ?_, back_self _⟩
    show D.bl false = D.bl (decide (xs.length = n) && _)
    rw [decide_eq_false hne]; rfl
  · have he : xs.length = n := by
      by_cases h : xs.length = n
      · exact h
      · rw [decide_eq_false (show ¬ ((xs.length : Int) = (n : Int)) by omega)] at e
        cases e
    refine wp_Skip <| wp_sR ?_
    refine wp.of (eB_ret (aC_ret (eL_ret (lLc_map (xs := xs) (fun x => .bl (si x)) (iSq_ret (eV_at rfl) (.inr (.inl rfl))) (by omega) fun x hx => ⟨_, by unfold gN; rw [if_pos (okV_dat (ho x hx)).1], eFn_ret (aC_ret (eV_at rfl) aN_ret) (okV_dat (ho x hx)).2 (p_is_integer (ho x hx)), rfl⟩)) aN_ret) (dAll_map si xs)) ⟨rfl, _, rfl, ?_, back_self _⟩
    show D.bl _ = D.bl (decide (xs.length = n) && _)
    rw [decide_eq_true he]; rfl
def matB (v : D) (n w : Nat) : Bool := match v with
  | .tup xs => decide (xs.length = n) && xs.all fun r => rowB r w
  | _ => false
theorem p_is_matrix {v : D} {n w : Nat} (h : okV v = true) (hx : ∀ xs, v = .tup xs → (∀ x ∈ xs, okV x = true ∧ ∀ ys, x = .tup ys → (∀ y ∈ ys, okV y = true) ∧ ys.length ≤ 1000) ∧ xs.length ≤ 1000) :
    m_is_matrix [v, .int n, .int w] = ret (.bl (matB v n w)) := by
  cases v <;> first | (cases h; done) | exact runP_ret rfl rfl | skip
  rename_i xs
  obtain ⟨ho, hl⟩ := hx xs rfl
  refine ret_of_wp fun S => runP_wp rfl ?_
  refine wp_Seq <| wp_sIf <| wp_tOr <| wp_tNo <| wp_tV <| wp_B <| wp_A <| wp_V rfl <| wp_A <| wp_C <| wp_N ⟨.bl true, rfl, _, rfl, fun _ => ?_, fun e => by cases e⟩
  refine wp_tV <| wp_2 <| wp_B <| wp_A <| wp_V rfl <| wp_N ⟨.int (xs.length : Nat), rfl, wp_V rfl ⟨_, rfl, _, rfl, fun e => ?_, fun e => ?_⟩⟩
  · have hne : xs.length ≠ n := by
      intro h
      rw [h, decide_eq_true rfl] at e
      cases e
    refine wp_sR <| wp_C ⟨rfl, _, rfl, ?_, back_self _⟩
    show D.bl false = D.bl (decide (xs.length = n) && _)
    rw [decide_eq_false hne]; rfl
  · have he : xs.length = n := by
      by_cases h : xs.length = n
      · exact h
      · rw [decide_eq_false (show ¬ ((xs.length : Int) = (n : Int)) by omega)] at e
        cases e
    refine wp_Skip <| wp_sR ?_
    refine wp.of (eB_ret (aC_ret (eL_ret (lLc_map (xs := xs) (fun x => .bl (rowB x w)) (iSq_ret (eV_at rfl) (.inr (.inl rfl))) (by omega) fun x hx =>
      ⟨_, by unfold gN; rw [if_pos (okV_dat (ho x hx).1).1], eFn_ret (aC_ret (eV_at rfl) (aC_ret (eV_at rfl) aN_ret)) (okV_mu (ho x hx).1 rfl) (p_is_row (ho x hx).1 (ho x hx).2), rfl⟩)) aN_ret) (dAll_map (fun x => rowB x w) xs)) ⟨rfl, _, rfl, ?_, back_self _⟩
    show D.bl _ = D.bl (decide (xs.length = n) && _)
    rw [decide_eq_true he]; rfl
theorem si_row (zs : List Int) : (zs.map D.int).all si = true := by
  rw [List.all_map]
  exact List.all_eq_true.mpr fun _ _ => rfl
theorem rowB_row (zs : List Int) (n : Nat) : rowB (row zs) n = decide (zs.length = n) := by
  show (decide ((zs.map D.int).length = n) && _) = _
  rw [si_row, Bool.and_true, List.length_map]
theorem okV_row (zs : List Int) : ∀ x ∈ zs.map D.int, okV x = true := fun x hx => by
  obtain ⟨z, _, rfl⟩ := List.mem_map.mp hx; rfl
theorem p_zero_matrix {n w : Nat} (hn : n ≤ 1000) (hw : w ≤ 1000) : m_zero_matrix [.int n, .int w] = ret (.tup ((List.range n).map fun _ => row (List.replicate w 0))) := by
  refine runP_ret rfl (sR_ret (eB_ret (aC_ret (eL_ret (lLc_r1 (fun _ => row (List.replicate w 0)) (eV_at rfl) (by omega) fun i hi => ⟨e2_ret (x := .tup [.int 0]) rfl (eV_at rfl) ?_, rfl⟩)) aN_ret) rfl) rfl)
  show (if _ then _ else _) = _
  rw [if_pos ⟨by omega, by omega, by decide⟩, Int.toNat_natCast]
  congr 2
  induction w with
  | zero => rfl
  | succ w ih => rw [List.replicate_succ, List.flatten_cons, ih (by omega), List.replicate_succ]; rfl
theorem sIx_nat {len d a : Nat} (h : a ≤ len) : HT.sIx len d (some (a : Int)) = a := by
  rw [HT.sIx_nat]; omega
theorem cut_to {xs : List D} {a : Nat} (h : a ≤ xs.length) : cutD xs none (some (a : Int)) = xs.take a := by
  unfold cutD
  rw [sIx_nat h]
  rfl
theorem cut_from {xs : List D} {a : Nat} (h : a ≤ xs.length) : cutD xs (some (a : Int)) none = xs.drop a := by
  unfold cutD
  rw [sIx_nat h]
  exact List.take_of_length_le (by rw [List.length_drop]; exact Nat.le_refl _)
/-! ### the law -/
theorem pow_lit {a b : Int} (h1 : 0 ≤ b) (h2 : b ≤ 1000000) (h3 : a.natAbs < 2 ^ 64) : dPow (.int a) (.int b) = some (.int (a ^ b.toNat)) := by
  unfold dPow; exact if_pos ⟨h1, h2, h3⟩
theorem p_law_number {S : List D} (hs : St S) : wp (m_law_number [.st]) S fun d S' => ∃ z : Int, d = .int z ∧ z.natAbs ≤ 10 ^ 25 ∧ St S' := by
  have hb := hs
  refine runP_wp rfl ?_
  refine wp_Seq <| wp_sA <| wp_I <| wp_L <| wp_lL <| wp_A <| wp_C <| wp_A <| wp_C <| wp_A <| wp_C <| wp_A <| wp_2 <| wp_C <| wp_C ⟨_, pow_lit (by omega) (by omega) (by decide), wp_A <| wp_2 <| wp_C <| wp_C ⟨_, pow_lit (by omega) (by omega) (by decide), wp_N ⟨rfl, (show 5 ≤ big by decide), ?_⟩⟩⟩
  refine wp_F <| wp_A <| wp_V rfl <| wp_A <| wp_C <| wp_N ⟨rfl, (p_law_take hs (by omega) (by decide)).imp ?_⟩
  rintro _ S1 ⟨v, rfl, v1, v2, hs1⟩
  obtain ⟨k, hk1, hk2, hix⟩ : ∃ k : Int, 1 ≤ k ∧ k ≤ 10 ^ 25 ∧ dIx S1 (.lst [.int 1, .int 12, .int 1000, .int (10 ^ (12 : Int).toNat), .int (10 ^ (25 : Int).toNat)]) (.int v) = some (.int k) := by
    have : v = 0 ∨ v = 1 ∨ v = 2 ∨ v = 3 ∨ v = 4 := by omega
    rcases this with rfl | rfl | rfl | rfl | rfl
    · exact ⟨1, by decide, by decide, rfl⟩
    · exact ⟨12, by decide, by decide, rfl⟩
    · exact ⟨1000, by decide, by decide, rfl⟩
    · exact ⟨_, by decide, by decide, rfl⟩
    · exact ⟨_, by decide, by decide, rfl⟩
  refine ⟨_, hix, rfl, ?_⟩
  refine wp_sR <| wp_2 <| wp_F <| wp_A <| wp_V rfl <| wp_A <| wp_2 <| wp_2 <| wp_C <| wp_V rfl ⟨.int (2 * k), ?_, wp_C ⟨_, rfl, wp_N ⟨rfl, (p_law_take (m := 2 * k + 1) hs1 (by omega) ?_).imp ?_⟩⟩⟩
  · rw [mul_sm (sm_of (n := 2) (by decide) (by omega)) (sm_of (n := 100) (by omega) (by omega))]
  · have h0 : (2 * k + 1).natAbs ≠ 0 := by omega
    have := (Nat.log2_lt (k := 100) h0).mpr (by omega)
    omega
  · rintro _ S2 ⟨u, rfl, u1, u2, hs2⟩
    refine wp_V rfl ⟨_, rfl, rfl, _, rfl, u - k, rfl, by omega, ?_⟩
    obtain ⟨s, t, rfl, _⟩ := hb
    exact hs2
/-- back leaves the law's state -/
theorem back_St {S S' : List D} (h : St S) : back S S' = S' := by
  obtain ⟨s, t, rfl, _⟩ := h
  rfl
theorem p_law_strange {g : Int} {S : List D} (hs : St S) : wp (m_law_strange [.st, .int g]) S fun d S' => ∃ v, d = .tup [v, .bl (si v)] ∧ okV v = true ∧ (∀ xs, v = .tup xs → (∀ x ∈ xs, okV x = true) ∧ xs.length ≤ 1000) ∧ St S' := by
  refine runP_wp rfl ?_
  refine wp_Seq <| wp_sA <| wp_L <| wp_lL <| wp_A <| wp_C <| wp_A <| wp_C <| wp_A <| wp_C <| wp_A <| wp_C <| wp_A <| wp_C <| wp_A <| wp_T <| wp_A <| wp_C <| wp_N ⟨rfl, (show 1 ≤ big by decide), ?_⟩
  refine wp_A <| wp_L <| wp_lL <| wp_A <| wp_C <| wp_N ⟨rfl, (show 1 ≤ big by decide), ?_⟩
  refine wp_A <| wp_T <| wp_N ⟨rfl, (show 0 ≤ big by decide), ?_⟩
  refine wp_A <| wp_X <| wp_C <| wp_A <| wp_V rfl <| wp_A <| wp_1 <| wp_V rfl ⟨_, rfl, wp_N ⟨rfl, (show 11 ≤ big by decide), rfl, ?_⟩⟩
  refine wp_Seq <| wp_sA <| wp_F <| wp_A <| wp_V rfl <| wp_A <| wp_C <| wp_N ⟨rfl, (p_law_take hs (by omega) (by decide)).imp ?_⟩
  rintro _ S1 ⟨v, rfl, v1, v2, hs1⟩
  refine ⟨rfl, ?_⟩
  have hvals : ∃ x, dIx S1 (.lst [.non, .bl true, .bl false, .str "1", .str "", .tup [.int 1], .lst [.int 1], .tup [], .exn "Malformed", .int g, .int (-g)]) (.int v) = some x ∧ okV x = true ∧ si x = decide (8 < v) ∧ (∀ xs, x = .tup xs → (∀ x ∈ xs, okV x = true) ∧ xs.length ≤ 1000) := by
    have : v = 0 ∨ v = 1 ∨ v = 2 ∨ v = 3 ∨ v = 4 ∨ v = 5 ∨ v = 6 ∨ v = 7 ∨ v = 8 ∨ v = 9 ∨ v = 10 := by omega
    rcases this with rfl | rfl | rfl | rfl | rfl | rfl | rfl | rfl | rfl | rfl | rfl
    · exact ⟨_, rfl, rfl, rfl, fun xs h => by cases h⟩
    · exact ⟨_, rfl, rfl, rfl, fun xs h => by cases h⟩
    · exact ⟨_, rfl, rfl, rfl, fun xs h => by cases h⟩
    · exact ⟨_, rfl, rfl, rfl, fun xs h => by cases h⟩
    · exact ⟨_, rfl, rfl, rfl, fun xs h => by cases h⟩
    · exact ⟨_, rfl, rfl, rfl, fun xs h => by cases h; exact ⟨fun x hx => by simp at hx; subst hx; rfl, by decide⟩⟩
    · exact ⟨_, rfl, rfl, rfl, fun xs h => by cases h⟩
    · exact ⟨_, rfl, rfl, rfl, fun xs h => by cases h; exact ⟨fun x hx => (by cases hx), by decide⟩⟩
    · exact ⟨_, rfl, rfl, rfl, fun xs h => by cases h⟩
    · exact ⟨_, rfl, rfl, rfl, fun xs h => by cases h⟩
    · exact ⟨_, rfl, rfl, rfl, fun xs h => by cases h⟩
  obtain ⟨x, hx, ho, hsi, ht⟩ := hvals
  refine wp_sR <| wp_T <| wp_A <| wp_I <| wp_V rfl <| wp_V rfl ⟨x, hx, wp_A <| wp_2 <| wp_V rfl <| wp_C ⟨_, rfl, wp_N ⟨?_, (show 2 ≤ big by decide), rfl, _, rfl, x, ?_, ho, ht, ?_⟩⟩⟩
  · show (dat x && _) = true
    rw [(okV_dat ho).1]; rfl
  · rw [hsi]
  · rw [back_St hs]; exact hs1
theorem p_law_says (a b : Bool) : m_law_says [.bl a, .bl b] = ret (.bl (decide (a = b))) := by
  cases a <;> cases b <;> exact runP_ret rfl rfl
theorem p_law_combined {S : List D} (hs : St S) : wp (m_law_combined [.st]) S fun d S' => d = .bl true ∧ St S' := by
  have hb := hs
  refine runP_wp rfl ?_
  refine wp_Seq <| wp_sA <| wp_2 <| wp_C <| wp_F <| wp_A <| wp_V rfl <| wp_A <| wp_C <| wp_N ⟨rfl, (p_law_take hs (by omega) (by decide)).imp ?_⟩
  rintro _ S1 ⟨v, rfl, v1, v2, hs1⟩
  refine ⟨_, rfl, rfl, ?_⟩
  have sby : sm (1 + v) := sm_of (n := 10) (by omega) (by omega)
  have szz : ∀ z : Int, z.natAbs ≤ 10 ^ 25 → sm z := fun z hz => sm_of (n := 100) (Nat.lt_of_le_of_lt hz (by decide)) (by omega)
  have pb : ∀ z : Int, z.natAbs ≤ 10 ^ 25 → (z * (1 + v)).natAbs ≤ 40 * 10 ^ 25 := fun z hz => by
    rw [Int.natAbs_mul, Nat.mul_comm]
    exact Nat.mul_le_mul (by omega) hz
  refine wp_Seq <| wp_sP <| wp_A <| wp_2 <| wp_F <| wp_A <| wp_V rfl <| wp_N ⟨rfl, (p_law_number hs1).imp ?_⟩
  rintro _ S2 ⟨a0, rfl, ba, hs2⟩
  refine wp_V rfl ⟨_, mul_sm (szz a0 ba) sby, wp_A <| wp_2 <| wp_F <| wp_A <| wp_V rfl <| wp_N ⟨rfl, (p_law_number hs2).imp ?_⟩⟩
  rintro _ S3 ⟨b0, rfl, bb, hs3⟩
  refine wp_V rfl ⟨_, mul_sm (szz b0 bb) sby, wp_N ⟨_, _, rfl, rfl, rfl, ?_⟩⟩
  have pa := pb a0 ba
  have pbb := pb b0 bb
  generalize a0 * (1 + v) = a at pa
  generalize b0 * (1 + v) = b at pbb
  -- the rest, whatever b is
  have rest : ∀ (b : Int) (S : List D), St S → b.natAbs ≤ 40 * 10 ^ 25 → ∀ (ρ4 ρ5 : Option D) (Z : Fl → List D → Prop), (∀ S', St S' → Z (.rt (.bl true)) S') →
      wp ((sSeq (sA 4 (eFn m_combination (aC (eV 2) (aC (eV 3) aN))))
  (sSeq (sIf (tOr' (tNo (tV (eB (f2 dIsi) (aC (eV 4) (aC (eC (.ty "tuple")) aN))))) (tOr' (tV (e2 dNe (eB (f1 dLen) (aC (eV 4) aN)) (eC (.int 3)))) (tV (e2 dGt (eB (f1 dLen) (aC (eL (lLc (iSq (eV 4)) (gN 5) (tV (e2 dIsN (eFn m_is_integer (aC (eV 5) aN)) (eC (.bl true)))) (eV 5) [5])) aN)) (eC (.int 0))))))
  (sR (eC (.bl false)))
  sSkip)
  (sR (eAn (e2 dEq (eIx (eV 4) (eC (.int 0))) (eFn m_law_divisor (aC (eL (lLst (aC (eV 2) (aC (eV 3) aN)))) aN))) (e2 dEq (e2 dAdd (e2 dMul (eV 2) (eIx (eV 4) (eC (.int 1)))) (e2 dMul (eV 3) (eIx (eV 4) (eC (.int 2))))) (eIx (eV 4) (eC (.int 0))))))))
        [some .st, some (.int (1 + v)), some (.int a), some (.int b), ρ4, ρ5]) S Z := by
    intro b S hs pb ρ4 ρ5 Z hZ
    refine wp_Seq <| wp_sA <| wp_F <| wp_A <| wp_V rfl <| wp_A <| wp_V rfl <| wp_N ⟨rfl, (p_combination (B := 40 * 10 ^ 25) (by decide) pa pb (by decide) S).imp ?_⟩
    rintro _ S' ⟨⟨x, y, rfl, hxy, bx, bY⟩, rfl⟩
    refine ⟨rfl, ?_⟩
    refine wp_Seq <| wp_sIf <| wp_tOr <| wp_tNo <| wp_tV <| wp_B <| wp_A <| wp_V rfl <| wp_A <| wp_C <| wp_N ⟨.bl true, rfl, _, rfl, fun _ => ?_, fun e => (by cases e)⟩
    refine wp_tOr <| wp_tV <| wp_2 <| wp_B <| wp_A <| wp_V rfl <| wp_N ⟨.int 3, rfl, wp_C ⟨_, rfl, _, rfl, fun _ => ?_, fun e => (by cases e)⟩⟩
    have hl : lLc (iSq (eV 4)) (gN 5) (tV (e2 dIsN (eFn m_is_integer (aC (eV 5) aN)) (eC (.bl true)))) (eV 5) [5] [some .st, some (.int (1 + v)), some (.int a), some (.int b), some (tri (Int.gcd a b) x y), ρ5] = ret [] := by
      unfold lLc
      rw [iSq_ret (d := tri (Int.gcd a b) x y) (eV_at rfl) (.inr (.inl rfl)), bnd_ret, if_pos (by simp)]
      have go : ∀ xs : List D, (∀ x ∈ xs, ∃ z, x = .int z) → ∀ ρ : DE, 5 < ρ.length → lcD (gN 5) (tV (e2 dIsN (eFn m_is_integer (aC (eV 5) aN)) (eC (.bl true)))) (eV 5) ρ xs = ret [] := by
        intro xs
        induction xs with
        | nil => intros; rfl
        | cons x xs ih =>
          intro h ρ hl
          obtain ⟨z, rfl⟩ := h x List.mem_cons_self
          unfold lcD
          show bnd (opt (some _)) _ = _
          rw [bnd_some]
          have ht : tV (e2 dIsN (eFn m_is_integer (aC (eV 5) aN)) (eC (.bl true))) (ρ.set 5 (some (.int z))) = ret false :=
            tV_ret (e2_ret (x := .bl true) (y := .bl true) (eFn_ret (ds := [.int z]) (aC_ret (eV_at (List.getElem?_set_self hl)) aN_ret) rfl (p_is_integer rfl)) rfl rfl)
          rw [ht, nox_ret, bnd_ret]
          show lcD _ _ _ _ _ = _
          exact ih (fun y hy => h y (List.mem_cons_of_mem _ hy)) ρ hl
      exact go _ (fun x hx => by
        simp only [List.mem_cons, List.not_mem_nil, or_false] at hx
        rcases hx with rfl | rfl | rfl <;> exact ⟨_, rfl⟩) _ (show (5 : Nat) < 6 by omega)
    refine wp_tV <| wp_2 <| wp_B <| wp_A <| wp.of (eL_ret hl) <| wp_N ⟨.int 0, rfl, wp_C ⟨_, rfl, _, rfl, fun e => (by cases e), fun _ => wp_Skip ?_⟩⟩
    have hg : gcdL [a, b] = Int.gcd a b := by
      show Nat.gcd (Nat.gcd 0 a.natAbs) b.natAbs = _
      rw [Nat.gcd_zero_left]; rfl
    refine wp_sR <| wp_eAn <| wp_2 <| wp_I <| wp_V rfl <| wp_C ⟨.int (Int.gcd a b), rfl, wp_F <| wp_A <| wp_L <| wp_lL <| wp_A <| wp_V rfl <| wp_A <| wp_V rfl <| wp_N ⟨rfl, (show 2 ≤ big by decide), wp_N ⟨rfl, wp.of (p_law_divisor [a, b] (by simp)) ?_⟩⟩⟩
    rw [hg]
    refine ⟨.bl true, ?_, true, rfl, fun _ => ?_, fun e => (by cases e)⟩
    · show some (D.bl (decide _)) = _
      rw [decide_eq_true rfl]
    · have sa : sm a := sm_of (n := 200) (Nat.lt_of_le_of_lt pa (by decide)) (by omega)
      have sb : sm b := sm_of (n := 200) (Nat.lt_of_le_of_lt pb (by decide)) (by omega)
      have sx : sm x := sm_of (n := 200) (Nat.lt_of_le_of_lt bx (by decide)) (by omega)
      have sy : sm y := sm_of (n := 200) (Nat.lt_of_le_of_lt bY (by decide)) (by omega)
      refine wp_2 <| wp_2 <| wp_2 <| wp_V rfl <| wp_I <| wp_V rfl <| wp_C ⟨.int x, rfl, _, mul_sm sa sx, wp_2 <| wp_V rfl <| wp_I <| wp_V rfl <| wp_C ⟨.int y, rfl, _, mul_sm sb sy, _, rfl, wp_I <| wp_V rfl <| wp_C ⟨.int (Int.gcd a b), rfl, .bl true, ?_, rfl, hZ _ hs⟩⟩⟩
      show some (D.bl (decide _)) = _
      rw [decide_eq_true hxy]
  have fin : ∀ S', St S' → (fun f S' => ∃ d, f = Fl.rt d ∧ (fun d S' => d = D.bl true ∧ St S') d (back S S')) (.rt (.bl true)) S' := fun S' h => ⟨_, rfl, rfl, by rw [back_St hb]; exact h⟩
  refine wp_Seq <| wp_sIf <| wp_tV <| wp_2 <| wp_F <| wp_A <| wp_V rfl <| wp_A <| wp_C <| wp_N ⟨rfl, (p_law_take hs3 (by omega) (by decide)).imp ?_⟩
  rintro _ S4 ⟨w, rfl, w1, w2, hs4⟩
  refine wp_C ⟨_, rfl, _, rfl, fun _ => ?_, fun _ => wp_Skip (rest b S4 hs4 pbb _ _ _ fin)⟩
  refine wp_sA <| wp_I <| wp_L <| wp_lL <| wp_A <| wp_C <| wp_A <| wp_V rfl <| wp_A <| wp_1 <| wp_V rfl ⟨_, rfl, wp_A <| wp_C <| wp_N ⟨rfl, (show 4 ≤ big by decide), ?_⟩⟩
  refine wp_F <| wp_A <| wp_V rfl <| wp_A <| wp_C <| wp_N ⟨rfl, (p_law_take hs4 (by omega) (by decide)).imp ?_⟩
  rintro _ S5 ⟨u, rfl, u1, u2, hs5⟩
  obtain ⟨c, hc, hix⟩ : ∃ c : Int, c.natAbs ≤ 40 * 10 ^ 25 ∧ dIx S5 (.lst [.int 0, .int a, .int (-a), .int 1]) (.int u) = some (.int c) := by
    have : u = 0 ∨ u = 1 ∨ u = 2 ∨ u = 3 := by omega
    rcases this with rfl | rfl | rfl | rfl
    · exact ⟨0, by decide, rfl⟩
    · exact ⟨a, pa, rfl⟩
    · exact ⟨-a, by rw [Int.natAbs_neg]; exact pa, rfl⟩
    · exact ⟨1, by decide, rfl⟩
  exact ⟨_, hix, rfl, rest c S5 hs5 hc _ _ _ fin⟩
theorem unit_eq {n : Nat} (hn : n ≤ 1000) {i k : Nat} : dInt (.bl (decide ((i : Int) = (k : Int)))) = some (.int (if k = i then 1 else 0)) := by
  by_cases h : k = i
  · rw [if_pos h, decide_eq_true (by omega)]; rfl
  · rw [if_neg h, decide_eq_false (by omega)]; rfl
theorem p_law_units_hold {S : List D} (hs : St S) : wp (m_law_units_hold [.st]) S fun d S' => d = .bl true ∧ St S' := by
  have hb := hs
  refine runP_wp rfl ?_
  refine wp_Seq <| wp_sT <| wp_T <| wp_A <| wp_F <| wp_A <| wp_V rfl <| wp_A <| wp_C <| wp_N ⟨rfl, (p_law_take hs (by omega) (by decide)).imp ?_⟩
  rintro _ S1 ⟨n, rfl, n1, n2, hs1⟩
  refine wp_A <| wp_F <| wp_A <| wp_V rfl <| wp_A <| wp_C <| wp_N ⟨rfl, (p_law_take hs1 (by omega) (by decide)).imp ?_⟩
  rintro _ S2 ⟨w, rfl, w1, w2, hs2⟩
  obtain ⟨n, rfl⟩ := Int.eq_ofNat_of_zero_le n1
  obtain ⟨w, rfl⟩ := Int.eq_ofNat_of_zero_le w1
  refine wp_N ⟨rfl, (show 2 ≤ big by decide), _, rfl, ?_⟩
  -- the unit matrix
  have hu : eB (f1 dTuple) (aC (eL (lLc (iR1 (eV 1)) (gN 3) tY (eB (f1 dTuple) (aC (eL (lLc (iR1 (eV 1)) (gN 4) tY (eB (f1 dInt) (aC (e2 dEq (eV 3) (eV 4)) aN)) [4])) aN)) [3])) aN) [some .st, some (.int n), some (.int w), none, none] = ret (.tup ((List.range n).map fun i => row (unitZ n i))) :=
    eB_ret (aC_ret (eL_ret (lLc_r1 (fun i => row (unitZ n i)) (eV_at rfl) (by omega) fun i hi => ⟨eB_ret (aC_ret (eL_ret (lLc_r1 (fun k => .int (if k = i then 1 else 0)) (eV_at rfl) (by omega) fun k hk => ⟨eB_ret (aC_ret (e2_ret (eV_at rfl) (eV_at rfl) rfl) aN_ret) (unit_eq (n := n) (by omega)), rfl⟩)) aN_ret) (by unfold unitZ; rw [← map_row]; rfl), rfl⟩)) aN_ret) rfl
  refine wp_Seq <| wp_sIf <| wp_tV <| wp_2 <| wp_F <| wp_A <| wp_V rfl <| wp_N ⟨rfl, wp.of (p_unit_matrix (n := n) (by omega)) <| wp.of hu ⟨.bl false, ?_, _, rfl, fun e => (by cases e), fun _ => wp_Skip ?_⟩⟩
  · have := okN_tab 0 ((List.range n).map (unitZ n))
    rw [List.map_map] at this
    exact dNe_self (n := 2) (by omega) this
  -- zeros
  have hz : eB (f1 dTuple) (aC (eL (lLc (iR1 (eV 1)) (gN 3) tY (eB (f1 dTuple) (aC (eL (lLc (iR1 (eV 2)) (gN 4) tY (eC (.int 0)) [4])) aN)) [3])) aN) [some .st, some (.int n), some (.int w), none, none] = ret (.tup ((List.range n).map fun _ => row (List.replicate w 0))) :=
    eB_ret (aC_ret (eL_ret (lLc_r1 (fun i => row (List.replicate w 0)) (eV_at rfl) (by omega) fun i hi => ⟨eB_ret (aC_ret (eL_ret (lLc_r1 (fun k => .int 0) (eV_at rfl) (by omega) fun k hk => ⟨rfl, rfl⟩)) aN_ret) (by
      show some (D.tup _) = some (D.tup _)
      rw [List.map_replicate]
      congr 2
      rw [List.map_const', List.length_range]), rfl⟩)) aN_ret) rfl
  refine wp_Seq <| wp_sIf <| wp_tV <| wp_2 <| wp_F <| wp_A <| wp_V rfl <| wp_A <| wp_V rfl <| wp_N ⟨rfl, wp.of (p_zero_matrix (n := n) (w := w) (by omega) (by omega)) <| wp.of hz ⟨.bl false, ?_, _, rfl, fun e => (by cases e), fun _ => wp_Skip ?_⟩⟩
  · have := okN_tab 0 ((List.range n).map fun _ => List.replicate w 0)
    rw [List.map_map] at this
    exact dNe_self (n := 2) (by omega) this
  refine wp_Seq <| wp_sIf <| wp_tV <| wp_2 <| wp_V rfl <| wp_C ⟨_, rfl, _, rfl, fun _ => wp_sR <| wp_C ⟨rfl, _, rfl, rfl, by rw [back_St hb]; exact hs2⟩, fun e => wp_Skip ?_⟩
  have hn0 : n ≠ 0 := by
    intro h
    subst h
    exact absurd e (by decide)
  refine wp_Seq <| wp_sA <| wp_F <| wp_A <| wp_V rfl <| wp_A <| wp_V rfl <| wp_N ⟨rfl, (p_law_take (m := n) hs2 (by omega) ?_).imp ?_⟩
  · have := (Nat.log2_lt (k := 10) (show (n : Int).natAbs ≠ 0 by omega)).mpr (by omega)
    omega
  rintro _ S3 ⟨i, rfl, i1, i2, hs3⟩
  obtain ⟨i, rfl⟩ := Int.eq_ofNat_of_zero_le i1
  refine ⟨rfl, ?_⟩
  have hr : eB (f1 dTuple) (aC (eL (lLc (iR1 (eV 1)) (gN 4) tY (eB (f1 dInt) (aC (e2 dEq (eV 3) (eV 4)) aN)) [4])) aN) [some .st, some (.int n), some (.int w), some (.int i), none] = ret (row (unitZ n i)) :=
    eB_ret (aC_ret (eL_ret (lLc_r1 (fun k => .int (if k = i then 1 else 0)) (eV_at rfl) (by omega) fun k hk => ⟨eB_ret (aC_ret (e2_ret (eV_at rfl) (eV_at rfl) rfl) aN_ret) (unit_eq (n := n) (by omega)), rfl⟩)) aN_ret) (by unfold unitZ; rw [← map_row]; rfl)
  refine wp_sR <| wp_2 <| wp_F <| wp_A <| wp_V rfl <| wp_A <| wp_V rfl <| wp_N ⟨rfl, wp.of (p_unit_row (n := n) (i := i) (by omega)) <| wp.of hr ⟨.bl true, dEq_self (n := 1) (by omega) (okN_row 0 _), rfl, _, rfl, rfl, by rw [back_St hb]; exact hs3⟩⟩
theorem tup0_mul {k : Nat} (h : k ≤ 1000) : dMul (.tup [.int 0]) (.int k) = some (row (List.replicate k 0)) := by
  show (if _ then _ else _) = _
  rw [if_pos ⟨by omega, by omega, by decide⟩, Int.toNat_natCast]
  congr 2
  clear h
  induction k with
  | zero => rfl
  | succ w ih => rw [List.replicate_succ, List.flatten_cons, ih, List.replicate_succ]; rfl
theorem lst0_mul {k : Nat} (h : k ≤ 1000) : dMul (.lst [.int 0]) (.int k) = some (.lst (List.replicate k (.int 0))) := by
  show (if _ then _ else _) = _
  rw [if_pos ⟨by omega, by omega, by simp; omega⟩, Int.toNat_natCast]
  congr 2
  clear h
  induction k with
  | zero => rfl
  | succ w ih => rw [List.replicate_succ, List.flatten_cons, ih, List.replicate_succ]; rfl
theorem str_mul {z : Str} {k : Nat} (h : k ≤ 1000) (hz : z.length ≤ 1000) : dMul (.str z) (.int k) = some (.str (Txt.mul z k)) := by
  show (if _ then _ else _) = _
  rw [if_pos ⟨by omega, by omega, hz⟩]
theorem tup_add {a b : List D} (h : a.length + b.length ≤ 1000) : dAdd (.tup a) (.tup b) = some (.tup (a ++ b)) := by
  show (if _ then _ else _) = _
  exact if_pos (show a.length + b.length ≤ 100000 by omega)
theorem cutT_ret {lo hi : DE → M (Option Int)} {a : DE → M D} {ρ : DE} {xs : List D} {l h : Option Int} (ha : a ρ = ret (.tup xs)) (hl : lo ρ = ret l) (hh : hi ρ = ret h) : eCut lo hi a ρ = ret (.tup (cutD xs l h)) := by
  unfold eCut; rw [ha, bnd_ret, hl, bnd_ret, hh, bnd_ret]; rfl
theorem nums {a : DE → M D} {ρ : DE} {S : List D} {j w : Nat} {P : D → List D → Prop} (ha : a ρ = ret (.int w)) (hw : w ≤ 12) (hs : St S) (h0 : ∀ x, eV 0 ((wipeD ρ [j]).set j (some x)) = ret .st) (hP : ∀ (zs : List Int) S', St S' → zs.length = w → P (row zs) S') :
    wp (eB (f1 dTuple) (aC (eL (lLc (iR1 a) (gN j) tY (eFn m_law_number (aC (eV 0) aN)) [j])) aN) ρ) S P := by
  refine wp_B <| wp_A <| wp_L <| wp_Lc St (fun d => ∃ z : Int, d = .int z ∧ True) <| wp_R1 (n := w) <| wp.of ha ⟨rfl, by omega, by simp; omega, hs, ?_, ?_⟩
  · intro x hx S1 hs1
    obtain ⟨i, _, rfl⟩ := List.mem_map.mp hx
    refine ⟨_, rfl, wp_F <| wp_A <| wp.of (h0 _) <| wp_N ⟨rfl, (p_law_number hs1).imp ?_⟩⟩
    rintro _ S2 ⟨z, rfl, _, hs2⟩
    exact ⟨hs2, ⟨z, rfl, trivial⟩, rfl⟩
  · intro ys S1 hs1 hl hp
    obtain ⟨zs, rfl, _⟩ := lift_map D.int (fun _ => True) ys hp
    exact wp_N ⟨_, rfl, hP zs S1 hs1 (by simpa using hl)⟩
theorem p_law_rows_hold {S : List D} (hs : St S) : wp (m_law_rows_hold [.st]) S fun d S' => d = .bl true ∧ St S' := by
  have hb := hs
  refine runP_wp rfl ?_
  refine wp_Seq <| wp_sT <| wp_T <| wp_A <| wp_F <| wp_A <| wp_V rfl <| wp_A <| wp_C <| wp_N ⟨rfl, (p_law_take hs (by omega) (by decide)).imp ?_⟩
  rintro _ S1 ⟨n, rfl, n1, n2, hs1⟩
  refine wp_A <| wp_F <| wp_A <| wp_V rfl <| wp_A <| wp_C <| wp_N ⟨rfl, (p_law_take hs1 (by omega) (by decide)).imp ?_⟩
  rintro _ S2 ⟨w, rfl, w1, w2, hs2⟩
  obtain ⟨n, rfl⟩ := Int.eq_ofNat_of_zero_le n1
  obtain ⟨w, rfl⟩ := Int.eq_ofNat_of_zero_le w1
  refine wp_N ⟨rfl, (show 2 ≤ big by decide), _, rfl, ?_⟩
  refine wp_Seq <| wp_sA <| nums rfl (by omega) hs2 (fun _ => rfl) fun zs S3 hs3 lz => ⟨rfl, ?_⟩
  -- the row
  have r1 : m_is_row [row zs, .int w] = ret (.bl true) := by
    rw [p_is_row (v := row zs) rfl fun xs h => by cases h; exact ⟨okV_row zs, by rw [List.length_map]; omega⟩, rowB_row, decide_eq_true lz]
  have r2 : m_is_row [.lst (zs.map D.int), .int w] = ret (.bl false) := p_is_row rfl fun xs h => by cases h
  have r3 : m_is_row [.tup (zs.map D.int ++ [.int 0]), .int w] = ret (.bl false) := by
    have h3 := p_is_row (v := .tup (zs.map D.int ++ [.int 0])) (n := w) rfl fun xs h => by
      cases h
      refine ⟨fun x hx => ?_, by rw [List.length_append, List.length_map]; simp; omega⟩
      rcases List.mem_append.mp hx with h | h
      · exact okV_row zs x h
      · simp at h; subst h; rfl
    rw [h3]
    show ret (D.bl (decide ((zs.map D.int ++ [D.int 0]).length = w) && _)) = _
    rw [decide_eq_false (by rw [List.length_append, List.length_map]; simp; omega)]; rfl
  have r4 : ∀ s, m_is_row [.str s, .int w] = ret (.bl false) := fun s => p_is_row rfl fun xs h => by cases h
  have r5 : m_is_row [.non, .int w] = ret (.bl false) := p_is_row rfl fun xs h => by cases h
  have r6 : m_is_row [row zs, .int ((w : Int) + 1)] = ret (.bl false) := by
    have := p_is_row (v := row zs) (n := w + 1) rfl fun xs h => by cases h; exact ⟨okV_row zs, by rw [List.length_map]; omega⟩
    rw [rowB_row, decide_eq_false (by omega)] at this
    exact this
  refine wp_Seq <| wp_sIf <| wp_tOr <| wp_tV <| wp_2 <| wp_F <| wp_A <| wp_V rfl <| wp_A <| wp_V rfl <| wp_N ⟨rfl, wp.of r1 <| wp_C ⟨_, rfl, _, rfl, fun _ => ?_, fun e => (by cases e)⟩⟩
  refine wp_tOr <| wp_tV <| wp_2 <| wp_F <| wp_A <| wp.of (a := D.lst (zs.map D.int)) rfl <| wp_A <| wp_V rfl <| wp_N ⟨rfl, wp.of r2 <| wp_C ⟨_, rfl, _, rfl, fun _ => ?_, fun e => (by cases e)⟩⟩
  refine wp_tV <| wp_2 <| wp_F <| wp_A <| wp_2 <| wp_V rfl <| wp_T <| wp_A <| wp_C <| wp_N ⟨rfl, (show 1 ≤ big by decide), _, tup_add (by rw [List.length_map]; simp; omega), wp_A <| wp_V rfl <| wp_N ⟨rfl, wp.of r3 <| wp_C ⟨_, rfl, _, rfl, fun e => (by cases e), fun _ => wp_Skip ?_⟩⟩⟩
  refine wp_Seq <| wp_sIf <| wp_tOr <| wp_tV <| wp_2 <| wp_F <| wp_A <| wp_2 <| wp_C <| wp_V rfl ⟨_, str_mul (k := w) (by omega) (by decide), wp_A <| wp_V rfl <| wp_N ⟨rfl, wp.of (r4 _) <| wp_C ⟨_, rfl, _, rfl, fun _ => ?_, fun e => (by cases e)⟩⟩⟩
  refine wp_tOr <| wp_tV <| wp_2 <| wp_F <| wp_A <| wp_C <| wp_A <| wp_V rfl <| wp_N ⟨rfl, wp.of r5 <| wp_C ⟨_, rfl, _, rfl, fun _ => ?_, fun e => (by cases e)⟩⟩
  refine wp_tV <| wp_2 <| wp_F <| wp_A <| wp_V rfl <| wp_A <| wp_2 <| wp_V rfl <| wp_C ⟨_, rfl, wp_N ⟨rfl, wp.of r6 <| wp_C ⟨_, rfl, _, rfl, fun e => (by cases e), fun _ => wp_Skip ?_⟩⟩⟩
  -- the table
  refine wp_Seq <| wp_sA <| wp_B <| wp_A <| wp_L <| wp_Lc St (fun d => ∃ r : List Int, d = row r ∧ r.length = w) <| wp_R1 (n := n) <| wp_V rfl ⟨rfl, by omega, by simp; omega, hs3, ?_, ?_⟩
  · intro x hx S4 hs4
    obtain ⟨i, _, rfl⟩ := List.mem_map.mp hx
    exact ⟨_, rfl, nums rfl (by omega) hs4 (fun _ => rfl) fun zs S5 hs5 l5 => ⟨hs5, ⟨zs, rfl, l5⟩, rfl⟩⟩
  intro ys S4 hs4 hl hp
  obtain ⟨rs, rfl, hr⟩ := lift_map row (fun r => r.length = w) ys hp
  have ln : rs.length = n := by simpa using hl
  clear hl hp
  refine wp_N ⟨_, rfl, rfl, ?_⟩
  have okr : ∀ x ∈ rs.map row, okV x = true ∧ ∀ ys, x = .tup ys → (∀ y ∈ ys, okV y = true) ∧ ys.length ≤ 1000 := fun x hx => by
    obtain ⟨r, hr', rfl⟩ := List.mem_map.mp hx
    exact ⟨rfl, fun ys h => by cases h; exact ⟨okV_row r, by rw [List.length_map, hr r hr']; omega⟩⟩
  have allr : ∀ l : List (List Int), (∀ r ∈ l, r.length = w) → (l.map row).all (fun r => rowB r w) = true := fun l h => by
    rw [List.all_map]
    exact List.all_eq_true.mpr fun r hr => by (show rowB (row r) w = true); rw [rowB_row, decide_eq_true (h r hr)]
  have m1 : m_is_matrix [.tup (rs.map row), .int n, .int w] = ret (.bl true) := by
    rw [p_is_matrix (v := .tup (rs.map row)) rfl fun xs h => by cases h; exact ⟨okr, by rw [List.length_map]; omega⟩]
    show ret (D.bl (decide ((rs.map row).length = n) && _)) = _
    rw [allr rs hr, decide_eq_true (by rw [List.length_map]; exact ln)]; rfl
  have m2 : m_is_matrix [.lst (rs.map row), .int n, .int w] = ret (.bl false) := p_is_matrix rfl fun xs h => by cases h
  have m3 : m_is_matrix [.tup (rs.map row), .int ((n : Int) + 1), .int w] = ret (.bl false) := by
    have := p_is_matrix (v := .tup (rs.map row)) (n := n + 1) (w := w) rfl fun xs h => by cases h; exact ⟨okr, by rw [List.length_map]; omega⟩
    have e : matB (.tup (rs.map row)) (n + 1) w = false := by
      show (decide ((rs.map row).length = n + 1) && _) = _
      rw [decide_eq_false (by rw [List.length_map]; omega)]; rfl
    rw [e] at this; exact this
  have more : ∀ x : D, (okV x = true ∧ ∀ ys, x = .tup ys → (∀ y ∈ ys, okV y = true) ∧ ys.length ≤ 1000) → rowB x w = false → m_is_matrix [.tup (rs.map row ++ [x]), .int ((n : Int) + 1), .int w] = ret (.bl false) := by
    intro x hx hf
    have := p_is_matrix (v := .tup (rs.map row ++ [x])) (n := n + 1) (w := w) rfl fun xs h => by
      cases h
      refine ⟨fun y hy => ?_, by rw [List.length_append, List.length_map]; simp; omega⟩
      rcases List.mem_append.mp hy with h | h
      · exact okr y h
      · simp at h; subst h; exact hx
    have e : matB (.tup (rs.map row ++ [x])) (n + 1) w = false := by
      show (_ && (rs.map row ++ [x]).all fun r => rowB r w) = _
      rw [List.all_append, allr rs hr]
      show (_ && (true && (rowB x w && true))) = false
      rw [hf]; simp
    rw [e] at this; exact this
  have m4 := more (row (List.replicate (w + 1) 0)) ⟨rfl, fun ys h => by cases h; exact ⟨okV_row _, by simp; omega⟩⟩ (by rw [rowB_row, decide_eq_false (by simp)])
  have m5 := more (.lst (List.replicate w (.int 0))) ⟨rfl, fun ys h => by cases h⟩ rfl
  have m6 : m_is_matrix [.non, .int n, .int w] = ret (.bl false) := p_is_matrix rfl fun xs h => by cases h
  refine wp_Seq <| wp_sIf <| wp_tOr <| wp_tV <| wp_2 <| wp_F <| wp_A <| wp_V rfl <| wp_A <| wp_V rfl <| wp_A <| wp_V rfl <| wp_N ⟨rfl, wp.of m1 <| wp_C ⟨_, rfl, _, rfl, fun _ => ?_, fun e => (by cases e)⟩⟩
  refine wp_tV <| wp_2 <| wp_F <| wp_A <| wp.of (a := D.lst (rs.map row)) rfl <| wp_A <| wp_V rfl <| wp_A <| wp_V rfl <| wp_N ⟨rfl, wp.of m2 <| wp_C ⟨_, rfl, _, rfl, fun e => (by cases e), fun _ => wp_Skip ?_⟩⟩
  refine wp_Seq <| wp_sIf <| wp_tOr <| wp_tV <| wp_2 <| wp_F <| wp_A <| wp_V rfl <| wp_A <| wp_2 <| wp_V rfl <| wp_C ⟨_, rfl, wp_A <| wp_V rfl <| wp_N ⟨rfl, wp.of m3 <| wp_C ⟨_, rfl, _, rfl, fun _ => ?_, fun e => (by cases e)⟩⟩⟩
  refine wp_tV <| wp_2 <| wp_F <| wp_A <| wp_2 <| wp_V rfl <| wp_T <| wp_A <| wp_2 <| wp_T <| wp_A <| wp_C <| wp_N ⟨rfl, (show 1 ≤ big by decide), wp_2 <| wp_V rfl <| wp_C ⟨_, rfl, row (List.replicate (w + 1) 0), tup0_mul (k := w + 1) (by omega), wp_N ⟨rfl, (show 1 ≤ big by decide), _, tup_add (by rw [List.length_map]; simp; omega), wp_A <| wp_2 <| wp_V rfl <| wp_C ⟨_, rfl, wp_A <| wp_V rfl <| wp_N ⟨rfl, wp.of m4 <| wp_C ⟨_, rfl, _, rfl, fun e => (by cases e), fun _ => wp_Skip ?_⟩⟩⟩⟩⟩⟩
  refine wp_Seq <| wp_sIf <| wp_tOr <| wp_tV <| wp_2 <| wp_F <| wp_A <| wp_2 <| wp_V rfl <| wp_T <| wp_A <| wp_2 <| wp_L <| wp_lL <| wp_A <| wp_C <| wp_N ⟨rfl, (show 1 ≤ big by decide), wp_V rfl ⟨_, lst0_mul (k := w) (by omega), wp_N ⟨rfl, (show 1 ≤ big by decide), _, tup_add (by rw [List.length_map]; simp; omega), wp_A <| wp_2 <| wp_V rfl <| wp_C ⟨_, rfl, wp_A <| wp_V rfl <| wp_N ⟨rfl, wp.of m5 <| wp_C ⟨_, rfl, _, rfl, fun _ => ?_, fun e => (by cases e)⟩⟩⟩⟩⟩⟩
  refine wp_tV <| wp_2 <| wp_F <| wp_A <| wp_C <| wp_A <| wp_V rfl <| wp_A <| wp_V rfl <| wp_N ⟨rfl, wp.of m6 <| wp_C ⟨_, rfl, _, rfl, fun e => (by cases e), fun _ => wp_Skip ?_⟩⟩
  refine wp_Seq <| wp_sIf <| wp_tV <| wp_2 <| wp_V rfl <| wp_C ⟨_, rfl, _, rfl, fun _ => wp_sR <| wp_C ⟨rfl, _, rfl, rfl, by rw [back_St hb]; exact hs4⟩, fun e => wp_Skip ?_⟩
  have hw0 : w ≠ 0 := by
    intro h
    subst h
    exact absurd e (by decide)
  refine wp_Seq <| wp_sA <| wp_F <| wp_A <| wp_V rfl <| wp_A <| wp_V rfl <| wp_N ⟨rfl, (p_law_take (m := w) hs4 (by omega) ?_).imp ?_⟩
  · have := (Nat.log2_lt (k := 10) (show (w : Int).natAbs ≠ 0 by omega)).mpr (by omega)
    omega
  rintro _ S5 ⟨t, rfl, t1, t2, hs5⟩
  obtain ⟨t, rfl⟩ := Int.eq_ofNat_of_zero_le t1
  refine ⟨rfl, ?_⟩
  refine wp_Seq <| wp_sT <| wp_F <| wp_A <| wp_V rfl <| wp_A <| wp_C <| wp_N ⟨rfl, (p_law_strange (g := 7) hs5).imp ?_⟩
  rintro _ S6 ⟨v, rfl, ov, tv, hs6⟩
  refine ⟨_, by (show (if dat v then _ else none) = _); rw [if_pos (okV_dat ov).1]; rfl, ?_⟩
  -- one item of another form
  have lt : t ≤ (zs.map D.int).length := by rw [List.length_map]; omega
  have lt' : t + 1 ≤ (zs.map D.int).length := by rw [List.length_map]; omega
  refine wp_Seq <| wp_sA <| wp_2 <| wp_2 <| wp.of (cutT_ret (xs := zs.map D.int) (l := none) (h := some (t : Int)) (eV_at rfl) rfl rfl) <| wp_T <| wp_A <| wp_V rfl <| wp_N ⟨by (show (dat v && _) = true); rw [(okV_dat ov).1]; rfl, (show 1 ≤ big by decide), ?_⟩
  rw [cut_to lt]
  refine ⟨_, tup_add (by rw [List.length_take]; simp; omega), wp.of (cutT_ret (xs := zs.map D.int) (l := some ((t : Int) + 1)) (h := none) (eV_at rfl) rfl rfl) ?_⟩
  rw [show ((t : Int) + 1) = ((t + 1 : Nat) : Int) from rfl, cut_from lt']
  have lother : ((zs.map D.int).take t ++ [v] ++ (zs.map D.int).drop (t + 1)).length = w := by
    simp only [List.length_append, List.length_take, List.length_drop, List.length_map, List.length_cons, List.length_nil]; omega
  refine ⟨_, tup_add (by rw [← List.length_append, lother]; omega), rfl, ?_⟩
  have oko : ∀ x ∈ (zs.map D.int).take t ++ [v] ++ (zs.map D.int).drop (t + 1), okV x = true := fun x hx => by
    rcases List.mem_append.mp hx with h | h
    · rcases List.mem_append.mp h with h | h
      · exact okV_row zs x (List.mem_of_mem_take h)
      · simp at h; subst h; exact ov
    · exact okV_row zs x (List.mem_of_mem_drop h)
  have rowo : rowB (.tup ((zs.map D.int).take t ++ [v] ++ (zs.map D.int).drop (t + 1))) w = si v := by
    show (decide (_ = w) && _) = _
    rw [decide_eq_true lother, Bool.true_and, List.all_append, List.all_append, ← List.map_take, ← List.map_drop, si_row, si_row]
    simp
  have hro : m_is_row [.tup ((zs.map D.int).take t ++ [v] ++ (zs.map D.int).drop (t + 1)), .int w] = ret (.bl (si v)) := by
    rw [p_is_row rfl fun xs h => by cases h; exact ⟨oko, by rw [lother]; omega⟩, rowo]
  generalize (zs.map D.int).take t ++ [v] ++ (zs.map D.int).drop (t + 1) = os at lother oko rowo hro
  have says : m_law_says [.bl (si v), .bl (si v)] = ret (.bl true) := by rw [p_law_says, decide_eq_true rfl]
  refine wp_Seq <| wp_sIf <| wp_tNo <| wp_tV <| wp_F <| wp_A <| wp_F <| wp_A <| wp_V rfl <| wp_A <| wp_V rfl <| wp_N ⟨rfl, wp.of hro <| wp_A <| wp_V rfl <| wp_N ⟨rfl, wp.of says ⟨_, rfl, fun e => (by cases e), fun _ => wp_Skip ?_⟩⟩⟩
  refine wp_Seq <| wp_sA <| wp_F <| wp_A <| wp_V rfl <| wp_A <| wp_2 <| wp_V rfl <| wp_C ⟨_, rfl, wp_N ⟨rfl, (p_law_take (m := (n : Int) + 1) hs6 (by omega) ?_).imp ?_⟩⟩
  · have := (Nat.log2_lt (k := 10) (show ((n : Int) + 1).natAbs ≠ 0 by omega)).mpr (by omega)
    omega
  rintro _ S7 ⟨k, rfl, k1, k2, hs7⟩
  obtain ⟨k, rfl⟩ := Int.eq_ofNat_of_zero_le k1
  refine ⟨rfl, ?_⟩
  have lk : k ≤ (rs.map row).length := by rw [List.length_map]; omega
  refine wp_Seq <| wp_sA <| wp_2 <| wp_2 <| wp.of (cutT_ret (xs := rs.map row) (l := none) (h := some (k : Int)) (eV_at rfl) rfl rfl) <| wp_T <| wp_A <| wp_V rfl <| wp_N ⟨rfl, (show 1 ≤ big by decide), ?_⟩
  rw [cut_to lk]
  refine ⟨_, tup_add (by rw [List.length_take, List.length_map]; simp; omega), wp.of (cutT_ret (xs := rs.map row) (l := some (k : Int)) (h := none) (eV_at rfl) rfl rfl) ?_⟩
  rw [cut_from lk]
  have lmore : ((rs.map row).take k ++ [D.tup os] ++ (rs.map row).drop k).length = n + 1 := by
    simp only [List.length_append, List.length_take, List.length_drop, List.length_map, List.length_cons, List.length_nil]; omega
  refine ⟨_, tup_add (by rw [← List.length_append, lmore]; omega), rfl, ?_⟩
  have okm : ∀ x ∈ (rs.map row).take k ++ [D.tup os] ++ (rs.map row).drop k, okV x = true ∧ ∀ ys, x = .tup ys → (∀ y ∈ ys, okV y = true) ∧ ys.length ≤ 1000 := fun x hx => by
    rcases List.mem_append.mp hx with h | h
    · rcases List.mem_append.mp h with h | h
      · exact okr x (List.mem_of_mem_take h)
      · simp at h; subst h
        exact ⟨rfl, fun ys h => by cases h; exact ⟨oko, by rw [lother]; omega⟩⟩
    · exact okr x (List.mem_of_mem_drop h)
  have mm : ∀ n' : Nat, m_is_matrix [.tup ((rs.map row).take k ++ [D.tup os] ++ (rs.map row).drop k), .int n', .int w] = ret (.bl (decide (n + 1 = n') && si v)) := fun n' => by
    rw [p_is_matrix rfl fun xs h => by cases h; exact ⟨okm, by rw [lmore]; omega⟩]
    show ret (D.bl (decide (_ = n') && List.all _ _)) = _
    rw [lmore, List.all_append, List.all_append, ← List.map_take, ← List.map_drop, allr _ fun r h => hr r (List.mem_of_mem_take h), allr _ fun r h => hr r (List.mem_of_mem_drop h)]
    show ret (D.bl (_ && (true && (rowB (.tup os) w && true) && true))) = _
    rw [rowo]; simp
  have mm1 : m_is_matrix [.tup ((rs.map row).take k ++ [D.tup os] ++ (rs.map row).drop k), .int ((n : Int) + 1), .int w] = ret (.bl (si v)) := by
    have := mm (n + 1)
    rw [decide_eq_true rfl, Bool.true_and] at this
    exact this
  have mm0 : m_is_matrix [.tup ((rs.map row).take k ++ [D.tup os] ++ (rs.map row).drop k), .int n, .int w] = ret (.bl false) := by
    rw [mm n, decide_eq_false (by omega), Bool.false_and]
  refine wp_sR <| wp_eAn <| wp_F <| wp_A <| wp_F <| wp_A <| wp_V rfl <| wp_A <| wp_2 <| wp_V rfl <| wp_C ⟨_, rfl, wp_A <| wp_V rfl <| wp_N ⟨rfl, wp.of mm1 <| wp_A <| wp_V rfl <| wp_N ⟨rfl, wp.of says ⟨_, rfl, fun _ => ?_, fun e => (by cases e)⟩⟩⟩⟩
  exact wp_2 <| wp_F <| wp_A <| wp_V rfl <| wp_A <| wp_V rfl <| wp_A <| wp_V rfl <| wp_N ⟨rfl, wp.of mm0 <| wp_C ⟨_, rfl, rfl, _, rfl, rfl, by rw [back_St hb]; exact hs7⟩⟩
theorem law_true (ns : List Int) (hl : ns.length ≤ 63) (hb : ∀ z ∈ ns, Builtin.Int.intBits z ≤ 1048576) : m_law [.scr (ns.map D.int)] [.st] = .ok (.bl true) [.st] := by
  have key : wp (m_law [.scr (ns.map D.int)]) [.st] fun d S' => d = .bl true ∧ S' = [.st] := by
    refine runP_wp rfl ?_
    refine wp_Seq <| wp_New <| wp_FL <| wp_A <| wp_V rfl <| wp_N ⟨rfl, (p_law_state ns [.st]).imp ?_⟩
    rintro S _ ⟨rfl, hs⟩
    refine ⟨rfl, ?_⟩
    refine wp_Seq <| wp_sT <| wp_F <| wp_A <| wp_V rfl <| wp_A <| wp_F <| wp_A <| wp_V rfl <| wp_N ⟨rfl, (p_law_number hs).imp ?_⟩
    rintro _ S1 ⟨g, rfl, _, hs1⟩
    refine wp_N ⟨rfl, (p_law_strange hs1).imp ?_⟩
    rintro _ S2 ⟨v, rfl, ov, _, hs2⟩
    refine ⟨_, by (show (if dat v then _ else none) = _); rw [if_pos (okV_dat ov).1]; rfl, ?_⟩
    have says : m_law_says [.bl (si v), .bl (si v)] = ret (.bl true) := by rw [p_law_says, decide_eq_true rfl]
    refine wp_Seq <| wp_sIf <| wp_tNo <| wp_tV <| wp_F <| wp_A <| wp_F <| wp_A <| wp_V rfl <| wp_N ⟨(okV_dat ov).2, wp.of (p_is_integer ov) <| wp_A <| wp_V rfl <| wp_N ⟨rfl, wp.of says ⟨_, rfl, fun e => (by cases e), fun _ => wp_Skip ?_⟩⟩⟩
    -- numbers
    refine wp_Seq <| wp_sA <| wp_L <| wp_Lc St (fun d => ∃ z : Int, d = .int z ∧ sm z) <| wp.step (m := eFn m_law_take _ _) (wp_F <| wp_A <| wp_V rfl <| wp_A <| wp_C <| wp_N ⟨rfl, p_law_take hs2 (by omega) (by decide)⟩) ?_
    rintro _ S3 ⟨c, rfl, c1, c2, hs3⟩
    obtain ⟨c, rfl⟩ := Int.eq_ofNat_of_zero_le c1
    have hsmall : smallI (c : Int) = true := by unfold smallI; simp; omega
    simp only [hsmall, if_true]
    have hr : rngD 0 (c : Int) = (List.range c).map fun i => D.int (i : Nat) := by unfold rngD; simp
    rw [hr]
    refine wp.ret ⟨by simp; omega, hs3, ?_, ?_⟩
    · intro x hx S4 hs4
      obtain ⟨i, _, rfl⟩ := List.mem_map.mp hx
      refine ⟨_, rfl, wp_F <| wp_A <| wp_V rfl <| wp_N ⟨rfl, (p_law_number hs4).imp ?_⟩⟩
      rintro _ S5 ⟨z, rfl, hz, hs5⟩
      exact ⟨hs5, ⟨z, rfl, sm_of (n := 100) (Nat.lt_of_le_of_lt hz (by decide)) (by omega)⟩, rfl⟩
    intro ys S4 hs4 hl' hp
    obtain ⟨zs, rfl, hz⟩ := lift_map D.int sm ys hp
    have lz : zs.length ≤ 10 := by
      rw [List.length_map, List.length_map, List.length_range] at hl'
      omega
    refine ⟨rfl, ?_⟩
    refine wp_Seq <| wp_sA <| wp_2 <| wp_C <| wp_F <| wp_A <| wp_V rfl <| wp_A <| wp_C <| wp_N ⟨rfl, (p_law_take hs4 (by omega) (by decide)).imp ?_⟩
    rintro _ S5 ⟨y, rfl, y1, y2, hs5⟩
    refine ⟨_, rfl, rfl, ?_⟩
    -- the rest, for any numbers
    have rest : ∀ (zs : List Int) (S : List D) (o p q : Option D), St S → zs.length ≤ 10 →
        wp ((sSeq (sA 6 (eFn m_law_divisor (aC (eV 4) aN)))
  (sSeq (sIf (tOr' (tV (e2 dNe (eFn m_common_divisor (aC (eV 4) aN)) (eV 6))) (tV (e2 dNe (eFn m_common_divisor (aC (eB (f1 dTuple) (aC (eV 4) aN)) aN)) (eV 6))))
  (sR (eC (.bl false)))
  sSkip)
  (sR (eAn (eFn m_law_combined (aC (eV 1) aN)) (eAn (eFn m_law_rows_hold (aC (eV 1) aN)) (eFn m_law_units_hold (aC (eV 1) aN))))))) [some (.scr (ns.map D.int)), some .st, some v, some (.bl (si v)), some (.lst (zs.map D.int)), some (.int (1 + y)), o, p, q]) S
          fun f S' => ∃ d, f = .rt d ∧ d = .bl true ∧ back [.st] S' = [.st] := by
      intro zs S o p q hs lz
      refine wp_Seq <| wp_sA <| wp_F <| wp_A <| wp_V rfl <| wp_N ⟨rfl, wp.of (p_law_divisor zs (by omega)) ⟨rfl, ?_⟩⟩
      have ne : dNe (.int (gcdL zs : Nat)) (.int (gcdL zs : Nat)) = some (.bl false) := by
        show some (D.bl (!decide _)) = _
        rw [decide_eq_true rfl]; rfl
      refine wp_Seq <| wp_sIf <| wp_tOr <| wp_tV <| wp_2 <| wp_F <| wp_A <| wp_V rfl <| wp_N ⟨rfl, wp.of (p_common_divisor (.inl rfl) (by omega)) <| wp_V rfl ⟨_, ne, _, rfl, fun _ => ?_, fun e => (by cases e)⟩⟩
      refine wp_tV <| wp_2 <| wp_F <| wp_A <| wp_B <| wp_A <| wp_V rfl <| wp_N ⟨_, rfl, wp_N ⟨rfl, wp.of (p_common_divisor (.inr rfl) (by omega)) <| wp_V rfl ⟨_, ne, _, rfl, fun e => (by cases e), fun _ => wp_Skip ?_⟩⟩⟩
      refine wp_sR <| wp_eAn <| wp_F <| wp_A <| wp_V rfl <| wp_N ⟨rfl, (p_law_combined hs).imp ?_⟩
      rintro _ S1 ⟨rfl, hs1⟩
      refine ⟨true, rfl, fun _ => ?_, fun e => (by cases e)⟩
      refine wp_eAn <| wp_F <| wp_A <| wp_V rfl <| wp_N ⟨rfl, (p_law_rows_hold hs1).imp ?_⟩
      rintro _ S2 ⟨rfl, hs2⟩
      refine ⟨true, rfl, fun _ => ?_, fun e => (by cases e)⟩
      refine wp_F <| wp_A <| wp_V rfl <| wp_N ⟨rfl, (p_law_units_hold hs2).imp ?_⟩
      rintro _ S3 ⟨rfl, hs3⟩
      exact ⟨rfl, _, rfl, rfl, rfl⟩
    refine wp_Seq <| wp_sIf <| wp_tV <| wp_2 <| wp_F <| wp_A <| wp_V rfl <| wp_A <| wp_C <| wp_N ⟨rfl, (p_law_take hs5 (by omega) (by decide)).imp ?_⟩
    rintro _ S6 ⟨u, rfl, u1, u2, hs6⟩
    refine wp_C ⟨_, rfl, _, rfl, fun _ => ?_, fun _ => wp_Skip (rest zs S6 _ _ _ hs6 lz)⟩
    refine wp_sA <| wp.of (eL_ret (lLc_map (xs := zs.map D.int) (fun d => match d with | .int x => .int ((1 + y) * x) | _ => .non) (iSq_ret (eV_at rfl) (.inl rfl)) (by rw [List.length_map]; omega) fun x hx => ?_)) ⟨rfl, ?_⟩
    · obtain ⟨z, hz', rfl⟩ := List.mem_map.mp hx
      exact ⟨_, rfl, e2_ret (eV_at rfl) (eV_at rfl) (mul_sm (sm_of (n := 20) (by omega) (by omega)) (hz z hz')), rfl⟩
    have e : (zs.map D.int).map (fun d => match d with | .int x => D.int ((1 + y) * x) | _ => .non) = (zs.map fun x => (1 + y) * x).map D.int := by
      rw [List.map_map, List.map_map]; rfl
    rw [e]
    exact rest _ S6 _ _ _ hs6 (by rw [List.length_map]; exact lz)
  obtain ⟨d, S', e, rfl, rfl⟩ := key
  exact e
end K00

namespace K00
open PySem PySem.Spec PyProof.Rows L2 DL
/-- the law's promise -/
def spLaw (K : PySem.W.Frag) : Sp := fun vs H Q _ => ∃ (a : Addr) (ns : List Int), vs = [.ref a] ∧ SqL K H a (ns.map V.int) ∧ ns.length ≤ 63 ∧ (∀ z ∈ ns, Builtin.Int.intBits z ≤ 1048576) ∧ ∀ H', Q (.bl true) H'
theorem rps_ints {K : PySem.W.Frag} {mg : Str → Option Value} {F : Hp} : ∀ ns : List Int, Rps K mg F (ns.map V.int) (ns.map D.int)
  | [] => .nil
  | n :: ns => .cons (.int n) (rps_ints ns)
theorem sp_of {K : PySem.W.Frag} {mg : Str → Option Value} : ∀ vs H Q E, spLaw K vs H Q E → spD K mg 1 m_law vs H Q E := by
  rintro vs H Q E ⟨a, ns, rfl, hS, hl, hb, k⟩
  refine ⟨rfl, none, H, [.st], [.scr (ns.map D.int)], Evl.Ex.refl H, ⟨fun p hp => by (cases hp), fun _ => rfl⟩, .cons (.inl (.scr hS (rps_ints ns))) .nil, ?_⟩
  rw [law_true ns hl hb]
  intro F' H' _ _ v hv
  cases hv
  exact k H' 
theorem all {l : PySem.W.OpenLaw} {w : World} {K : PySem.W.Frag} {h : Heap} {mg : Str → Option Value} {fa : Addr} (X : K.In h) (G : h.Ns mainGlobals mg) (hfa : mg "law" = some (.ref fa)) (T : Blt K mg)
    (D_is_integer : Df K "is_integer" fn_is_integer) (D_common_divisor : Df K "common_divisor" fn_common_divisor) (D_combination : Df K "combination" fn_combination) (D_is_row : Df K "is_row" fn_is_row) (D_is_matrix : Df K "is_matrix" fn_is_matrix) (D_unit_row : Df K "unit_row" fn_unit_row) (D_unit_matrix : Df K "unit_matrix" fn_unit_matrix) (D_zero_matrix : Df K "zero_matrix" fn_zero_matrix) (D_law_state : Df K "_law_state" fn_law_state) (D_law_take : Df K "_law_take" fn_law_take) (D_law_says : Df K "_law_says" fn_law_says) (D_law_common : Df K "_law_common" fn_law_common) (D_law_number : Df K "_law_number" fn_law_number) (D_law_divisor : Df K "_law_divisor" fn_law_divisor) (D_law_combined : Df K "_law_combined" fn_law_combined) (D_law_strange : Df K "_law_strange" fn_law_strange) (D_law_rows_hold : Df K "_law_rows_hold" fn_law_rows_hold) (D_law_units_hold : Df K "_law_units_hold" fn_law_units_hold) (D_law : Df K "law" fn_law) :
    ∃ fd : FuncData, (∀ (s : Shared) (v : Value), BindsTo s fd ⟨[v], []⟩ [("script", v)]) ∧ ∀ base : Heap, K.In base → base.Ns mainGlobals mg → FnOk l.prog w K mg base CX0 5 fa fd ["script"] (spLaw K) := by
  obtain ⟨f, oc, od, an, osl, kV, doc, pm, cdv, ct, a, lk, c, kp⟩ := D_law
  have e := hfa.symm.trans (PySem.W.mg_of X G a)
  cases e
  refine ⟨PySem.W.fnOf "law" "law" (defArgs fn_law) (defBody fn_law) (defScope fn_law) .none kV doc pm an cdv ct, fun s v => .of_eq rfl, fun base _ _ => ?_⟩
  have C_is_integer : Cal l.prog w K mg base "is_integer" 1 1 m_is_integer := D_is_integer.cal (pn := ["value"]) X G (fun _ _ _ _ _ _ _ us hl => match us, hl with | [_], _ => rfl) runP_len (fun f fd F => ok_is_integer F T )
  have C_common_divisor : Cal l.prog w K mg base "common_divisor" 1 1 m_common_divisor := D_common_divisor.cal (pn := ["numbers"]) X G (fun _ _ _ _ _ _ _ us hl => match us, hl with | [_], _ => rfl) runP_len (fun f fd F => ok_common_divisor F T )
  have C_combination : Cal l.prog w K mg base "combination" 1 2 m_combination := D_combination.cal (pn := ["a", "b"]) X G (fun _ _ _ _ _ _ _ us hl => match us, hl with | [_, _], _ => rfl) runP_len (fun f fd F => ok_combination F T )
  have C_is_row : Cal l.prog w K mg base "is_row" 2 2 m_is_row := D_is_row.cal (pn := ["value", "n"]) X G (fun _ _ _ _ _ _ _ us hl => match us, hl with | [_, _], _ => rfl) runP_len (fun f fd F => ok_is_row F T C_is_integer)
  have C_is_matrix : Cal l.prog w K mg base "is_matrix" 3 3 m_is_matrix := D_is_matrix.cal (pn := ["value", "n", "width"]) X G (fun _ _ _ _ _ _ _ us hl => match us, hl with | [_, _, _], _ => rfl) runP_len (fun f fd F => ok_is_matrix F T C_is_row)
  have C_unit_row : Cal l.prog w K mg base "unit_row" 1 2 m_unit_row := D_unit_row.cal (pn := ["n", "i"]) X G (fun _ _ _ _ _ _ _ us hl => match us, hl with | [_, _], _ => rfl) runP_len (fun f fd F => ok_unit_row F T )
  have C_unit_matrix : Cal l.prog w K mg base "unit_matrix" 2 1 m_unit_matrix := D_unit_matrix.cal (pn := ["n"]) X G (fun _ _ _ _ _ _ _ us hl => match us, hl with | [_], _ => rfl) runP_len (fun f fd F => ok_unit_matrix F T C_unit_row)
  have C_zero_matrix : Cal l.prog w K mg base "zero_matrix" 1 2 m_zero_matrix := D_zero_matrix.cal (pn := ["n", "width"]) X G (fun _ _ _ _ _ _ _ us hl => match us, hl with | [_, _], _ => rfl) runP_len (fun f fd F => ok_zero_matrix F T )
  have C_law_state : CalL l.prog w K mg base "_law_state" 1 1 m_law_state := D_law_state.calL (pn := ["script"]) X G (fun _ _ _ _ _ _ _ us hl => match us, hl with | [_], _ => rfl) runLP_len (fun f fd F => ok_law_state F T )
  have C_law_take : Cal l.prog w K mg base "_law_take" 1 2 m_law_take := D_law_take.cal (pn := ["state", "m"]) X G (fun _ _ _ _ _ _ _ us hl => match us, hl with | [_, _], _ => rfl) runP_len (fun f fd F => ok_law_take F T )
  have C_law_says : Cal l.prog w K mg base "_law_says" 1 2 m_law_says := D_law_says.cal (pn := ["value", "due"]) X G (fun _ _ _ _ _ _ _ us hl => match us, hl with | [_, _], _ => rfl) runP_len (fun f fd F => ok_law_says F T )
  have C_law_common : Cal l.prog w K mg base "_law_common" 1 2 m_law_common := D_law_common.cal (pn := ["a", "b"]) X G (fun _ _ _ _ _ _ _ us hl => match us, hl with | [_, _], _ => rfl) runP_len (fun f fd F => ok_law_common F T )
  have C_law_number : Cal l.prog w K mg base "_law_number" 2 1 m_law_number := D_law_number.cal (pn := ["state"]) X G (fun _ _ _ _ _ _ _ us hl => match us, hl with | [_], _ => rfl) runP_len (fun f fd F => ok_law_number F T C_law_take)
  have C_law_divisor : Cal l.prog w K mg base "_law_divisor" 2 1 m_law_divisor := D_law_divisor.cal (pn := ["numbers"]) X G (fun _ _ _ _ _ _ _ us hl => match us, hl with | [_], _ => rfl) runP_len (fun f fd F => ok_law_divisor F T C_law_common)
  have C_law_combined : Cal l.prog w K mg base "_law_combined" 3 1 m_law_combined := D_law_combined.cal (pn := ["state"]) X G (fun _ _ _ _ _ _ _ us hl => match us, hl with | [_], _ => rfl) runP_len (fun f fd F => ok_law_combined F T C_law_divisor C_law_number C_law_take C_combination C_is_integer)
  have C_law_strange : Cal l.prog w K mg base "_law_strange" 2 2 m_law_strange := D_law_strange.cal (pn := ["state", "good"]) X G (fun _ _ _ _ _ _ _ us hl => match us, hl with | [_, _], _ => rfl) runP_len (fun f fd F => ok_law_strange F T C_law_take)
  have C_law_rows_hold : Cal l.prog w K mg base "_law_rows_hold" 4 1 m_law_rows_hold := D_law_rows_hold.cal (pn := ["state"]) X G (fun _ _ _ _ _ _ _ us hl => match us, hl with | [_], _ => rfl) runP_len (fun f fd F => ok_law_rows_hold F T C_law_number C_law_says C_law_strange C_law_take C_is_matrix C_is_row)
  have C_law_units_hold : Cal l.prog w K mg base "_law_units_hold" 3 1 m_law_units_hold := D_law_units_hold.cal (pn := ["state"]) X G (fun _ _ _ _ _ _ _ us hl => match us, hl with | [_], _ => rfl) runP_len (fun f fd F => ok_law_units_hold F T C_law_take C_unit_matrix C_unit_row C_zero_matrix)
  exact (ok_law (fun_mk (st := fn_law) lk c kp) T C_law_combined C_law_divisor C_law_number C_law_rows_hold C_law_says C_law_state C_law_strange C_law_take C_law_units_hold C_common_divisor C_is_integer).imp sp_of
theorem walk {l : PySem.W.OpenLaw} {q : Program} {loose : List Str} {XP : (Str → Option Value) → Heap → Prop} {YP : World → Heap → Prop} {d : DefRec} {K : Params → PySem.W.Frag} (hn : l.most = some 63) (hdf : d.params.defaults = [])
    (hY : ∀ (w : World) (h : Heap), YP w h → (K w.params).In h)
    (F : ∀ (w : World) (mg : Str → Option Value) (fa : Addr) (h : Heap), (K w.params).In h → h.Ns mainGlobals mg → mg d.name = some (.ref fa) →
      ∃ fd : FuncData, (∀ (s : Shared) (u : Value), BindsTo s fd ⟨[u], []⟩ [("script", u)]) ∧ ∀ base : Heap, (K w.params).In base → base.Ns mainGlobals mg → FnOk l.prog w (K w.params) mg base CX0 5 fa fd ["script"] (spLaw (K w.params))) :
    PySem.W.WalkO q loose XP YP l.row.toRowW d [] (fun f vs => PySem.call f vs) :=
  L2.walk_ofB (n := 63) (k := 5) (x := "script") (CX := fun _ => CX0) (sp := fun w => spLaw (K w.params)) hn (by decide) hdf ⟨rfl, by decide, by decide⟩ hY F (fun _ _ a ns hl hb _ hS => ⟨a, ns, rfl, hS, hl, hb, fun _ => rfl⟩) fun _ _ _ _ _ z => z
end K00
open PySem PySem.W PyProof.Rows
set_option maxRecDepth 100000 in
set_option maxHeartbeats 0 in
theorem PySem.Challenge.cw_cyclebounds_k00_integers_and_forms_holds : PySem.Challenge.rw_cyclebounds_k00_integers_and_forms.Holds := by
  w_on; o_law; k_head; (case hw => w_witness2)
  k_fill
  refine K00.walk (l := PySem.Challenge.rw_cyclebounds_k00_integers_and_forms) rfl rfl (fun w h Y => PySem.W.kIn_of Y) ?F
  case F =>
    intro w mg fa h KX G hmg
    refine K00.all KX G hmg ?T ?D_is_integer ?D_common_divisor ?D_combination ?D_is_row ?D_is_matrix ?D_unit_row ?D_unit_matrix ?D_zero_matrix ?D_law_state ?D_law_take ?D_law_says ?D_law_common ?D_law_number ?D_law_divisor ?D_law_combined ?D_law_strange ?D_law_rows_hold ?D_law_units_hold ?D_law
    case T =>
      refine' ⟨mg_none_of KX G ?b_abs, mg_none_of KX G ?b_all, mg_none_of KX G ?b_bool, mg_none_of KX G ?b_int, mg_none_of KX G ?b_isinstance, mg_none_of KX G ?b_len, mg_none_of KX G ?b_list, mg_none_of KX G ?b_range, mg_none_of KX G ?b_tuple, DL.xcU_mk KX G ?a_Malformed ?q_Malformed ?k_Malformed ?i1_Malformed ?i2_Malformed ?i3_Malformed ?i4_Malformed ?i5_Malformed ?i6_Malformed ?i7_Malformed ?i8_Malformed ?n1_Malformed ?n2_Malformed ?n3_Malformed ?n4_Malformed ?n5_Malformed⟩
      (case b_abs => k_is); (case b_all => k_is); (case b_bool => k_is); (case b_int => k_is); (case b_isinstance => k_is); (case b_len => k_is); (case b_list => k_is); (case b_range => k_is); (case b_tuple => k_is)
      (case a_Malformed => k_is); (case q_Malformed => k_exc); (case k_Malformed => k_is); (case i1_Malformed => k_is); (case i2_Malformed => k_is); (case i3_Malformed => k_is); (case i4_Malformed => k_is); (case i5_Malformed => k_is); (case i6_Malformed => k_is); (case i7_Malformed => k_is); (case i8_Malformed => k_is); (case n1_Malformed => k_is); (case n2_Malformed => k_is); (case n3_Malformed => k_is); (case n4_Malformed => k_is); (case n5_Malformed => k_is)
    case D_is_integer =>
      refine' DL.df_mk ?a ?l ?c ?k
      (case a => k_is); (case l => k_is); (case c => k_is); (case k => k_is)
    case D_common_divisor =>
      refine' DL.df_mk ?a ?l ?c ?k
      (case a => k_is); (case l => k_is); (case c => k_is); (case k => k_is)
    case D_combination =>
      refine' DL.df_mk ?a ?l ?c ?k
      (case a => k_is); (case l => k_is); (case c => k_is); (case k => k_is)
    case D_is_row =>
      refine' DL.df_mk ?a ?l ?c ?k
      (case a => k_is); (case l => k_is); (case c => k_is); (case k => k_is)
    case D_is_matrix =>
      refine' DL.df_mk ?a ?l ?c ?k
      (case a => k_is); (case l => k_is); (case c => k_is); (case k => k_is)
    case D_unit_row =>
      refine' DL.df_mk ?a ?l ?c ?k
      (case a => k_is); (case l => k_is); (case c => k_is); (case k => k_is)
    case D_unit_matrix =>
      refine' DL.df_mk ?a ?l ?c ?k
      (case a => k_is); (case l => k_is); (case c => k_is); (case k => k_is)
    case D_zero_matrix =>
      refine' DL.df_mk ?a ?l ?c ?k
      (case a => k_is); (case l => k_is); (case c => k_is); (case k => k_is)
    case D_law_state =>
      refine' DL.df_mk ?a ?l ?c ?k
      (case a => k_is); (case l => k_is); (case c => k_is); (case k => k_is)
    case D_law_take =>
      refine' DL.df_mk ?a ?l ?c ?k
      (case a => k_is); (case l => k_is); (case c => k_is); (case k => k_is)
    case D_law_says =>
      refine' DL.df_mk ?a ?l ?c ?k
      (case a => k_is); (case l => k_is); (case c => k_is); (case k => k_is)
    case D_law_common =>
      refine' DL.df_mk ?a ?l ?c ?k
      (case a => k_is); (case l => k_is); (case c => k_is); (case k => k_is)
    case D_law_number =>
      refine' DL.df_mk ?a ?l ?c ?k
      (case a => k_is); (case l => k_is); (case c => k_is); (case k => k_is)
    case D_law_divisor =>
      refine' DL.df_mk ?a ?l ?c ?k
      (case a => k_is); (case l => k_is); (case c => k_is); (case k => k_is)
    case D_law_combined =>
      refine' DL.df_mk ?a ?l ?c ?k
      (case a => k_is); (case l => k_is); (case c => k_is); (case k => k_is)
    case D_law_strange =>
      refine' DL.df_mk ?a ?l ?c ?k
      (case a => k_is); (case l => k_is); (case c => k_is); (case k => k_is)
    case D_law_rows_hold =>
      refine' DL.df_mk ?a ?l ?c ?k
      (case a => k_is); (case l => k_is); (case c => k_is); (case k => k_is)
    case D_law_units_hold =>
      refine' DL.df_mk ?a ?l ?c ?k
      (case a => k_is); (case l => k_is); (case c => k_is); (case k => k_is)
    case D_law =>
      refine' DL.df_mk ?a ?l ?c ?k
      (case a => k_is); (case l => k_is); (case c => k_is); (case k => k_is)
#print axioms PySem.Challenge.cw_cyclebounds_k00_integers_and_forms_holds

