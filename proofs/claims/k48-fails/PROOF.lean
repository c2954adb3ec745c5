import PyProof.Rows.All
import Wide.All
import OpenK.AllK
import Wide.FinOn
import KE.KStateDown
import HandS.ForMost
import HandS.Exc
import HandS.WordsExc
import HandS.Defaults
import HandS.Conv
import HandS.TupAny
import HandS.Style
import HandS.IsInst
import HandS.Zip
import HandS.Deep
import PyProof.StrLawsRepr
import PyProof.FitsInt
import PyProof.ReprRoads
import KE.DataMinMax
import KE.SortData
import HandS.Sort
import HandS.Iter
import HandS.Head0
import HandS.Words
import HandS.Head1
import HandS.Head2
import HandS.HeadEnd
import HandS.HeadHook1
import HandS.HeadHook2
import PySem.Challenge.RW_maywrite_k48_whole_failing_days_borne
set_option Elab.async false
set_option linter.all false
set_option maxRecDepth 100000
set_option maxHeartbeats 0
/-! MA: plain data, the little language and what it does. Own work. -/
namespace MP

inductive D where
  | non | bl (b : Bool) | int (i : Int) | str (s : List Nat) | tup (xs : List D) | lst (xs : List D)
  /-- the text that repr gives of x -/
  | rp (x : D)
  /-- a def's value: its number, what it holds -/
  | fn (k : Nat) (cs : List D)
  /-- a list that is only read (the script) -/
  | fz (xs : List D)

instance : Inhabited D := ⟨.non⟩

/-! ### equality, as Python has it -/
mutual
def D.eqv : D → D → Bool
  | .non, .non => true
  | .bl a, .bl b => a == b
  | .bl a, .int j => (if a then 1 else 0) == j
  | .int i, .bl b => i == (if b then 1 else 0)
  | .int i, .int j => i == j
  | .str x, .str y => x == y
  | .lst xs, .lst ys => D.eqvs xs ys
  | .tup xs, .tup ys => D.eqvs xs ys
  | _, _ => false
def D.eqvs : List D → List D → Bool
  | [], [] => true
  | x :: xs, y :: ys => D.eqv x y && D.eqvs xs ys
  | _, _ => false
end
/- plain: no repr, no def within; signs that are signs -/
mutual
def D.plain : D → Bool
  | .non | .bl _ | .int _ => true
  | .str s => s.all (· < 0x110000)
  | .tup xs | .lst xs => D.plains xs
  | .rp _ | .fn _ _ | .fz _ => false
def D.plains : List D → Bool
  | [] => true
  | x :: xs => D.plain x && D.plains xs
end
mutual
def D.dep : D → Nat
  | .tup xs | .lst xs => D.deps xs + 1
  | _ => 0
def D.deps : List D → Nat
  | [] => 0
  | x :: xs => max (D.dep x) (D.deps xs)
end
/- how long the text of repr can be -/
mutual
def D.sz : D → Nat
  | .int i => i.natAbs.log2 + 3
  | .str s => 10 * s.length + 2
  | .tup xs | .lst xs => D.szs xs + 4
  | _ => 5
def D.szs : List D → Nat
  | [] => 0
  | x :: xs => D.sz x + 2 + D.szs xs
end
/- dInts that repr writes -/
mutual
def D.shw : D → Bool
  | .int i => decide (i.natAbs.log2 < 1920)
  | .tup xs | .lst xs => D.shws xs
  | _ => true
def D.shws : List D → Bool
  | [] => true
  | x :: xs => D.shw x && D.shws xs
end
mutual
def D.beq : D → D → Bool
  | .non, .non => true
  | .bl a, .bl b => a == b
  | .int i, .int j => i == j
  | .str x, .str y => x == y
  | .lst xs, .lst ys => D.beqs xs ys
  | .tup xs, .tup ys => D.beqs xs ys
  | .rp x, .rp y => D.beq x y
  | _, _ => false
def D.beqs : List D → List D → Bool
  | [], [] => true
  | x :: xs, y :: ys => D.beq x y && D.beqs xs ys
  | _, _ => false
end
mutual
theorem D.beq_eq : ∀ (x y : D), D.beq x y = true → x = y
  | .non, y, h => by cases y <;> simp_all [D.beq]
  | .bl a, y, h => by cases y <;> simp_all [D.beq]
  | .int a, y, h => by cases y <;> simp_all [D.beq]
  | .str a, y, h => by cases y <;> simp_all [D.beq]
  | .lst xs, y, h => by
    cases y <;> simp [D.beq] at h
    rw [D.beqs_eq _ _ h]
  | .tup xs, y, h => by
    cases y <;> simp [D.beq] at h
    rw [D.beqs_eq _ _ h]
  | .rp x, y, h => by
    cases y <;> simp [D.beq] at h
    rw [D.beq_eq _ _ h]
  | .fn k cs, y, h => by cases y <;> simp [D.beq] at h
  | .fz xs, y, h => by cases y <;> simp [D.beq] at h
theorem D.beqs_eq : ∀ (xs ys : List D), D.beqs xs ys = true → xs = ys
  | [], ys, h => by cases ys <;> simp_all [D.beqs]
  | x :: xs, ys, h => by
    cases ys with
    | nil => simp [D.beqs] at h
    | cons y ys =>
      simp [D.beqs] at h
      rw [D.beq_eq _ _ h.1, D.beqs_eq _ _ h.2]
end

/-! ### order, of data without texts -/
mutual
def D.ky : D → List Int
  | .bl b => [if b then 1 else 0]
  | .int n => [n]
  | .lst xs => D.kys xs
  | .tup xs => D.kys xs
  | _ => []
def D.kys : List D → List Int
  | [] => [0]
  | x :: xs => 1 :: (D.ky x ++ D.kys xs)
end
mutual
def D.alk : D → D → Bool
  | .bl _, .bl _ => true
  | .int _, .int _ => true
  | .lst xs, .lst ys => D.alks xs ys
  | .tup xs, .tup ys => D.alks xs ys
  | _, _ => false
def D.alks : List D → List D → Bool
  | x :: xs, y :: ys => D.alk x y && D.alks xs ys
  | _, _ => true
end
def lexI : List Int → List Int → Bool
  | [], [] => false
  | [], _ :: _ => true
  | _ :: _, [] => false
  | x :: r, y :: t => decide (x < y) || (!decide (y < x) && lexI r t)
def leD (x y : D) : Bool := !lexI (D.ky y) (D.ky x)
def neTup : D → Bool
  | .tup (_ :: _) => true
  | _ => false
def noTup : D → Bool
  | .tup _ => false
  | .non => false
  | _ => true
def sortOk (xs : List D) : Bool := (xs.all D.plain && xs.all fun x => decide (x.dep ≤ 64)) && ((xs.all fun x => xs.all fun y => D.alk x y) && (xs.all neTup || xs.all noTup))
/-! ### results -/
inductive Rs (α : Type) where
  /-- nothing is said -/
  | st
  /-- an exception of the class c, made with x -/
  | ex (c : Nat) (x : D)
  | ok (a : α)
def Rs.bind {α β : Type} : Rs α → (α → Rs β) → Rs β
  | .st, _ => .st
  | .ex c x, _ => .ex c x
  | .ok a, f => f a
@[simp] theorem Rs.bind_ok {α β : Type} (a : α) (f : α → Rs β) : (Rs.ok a).bind f = f a := rfl
@[simp] theorem Rs.bind_st {α β : Type} (f : α → Rs β) : (Rs.st : Rs α).bind f = .st := rfl
@[simp] theorem Rs.bind_ex {α β : Type} (c : Nat) (x : D) (f : α → Rs β) : (Rs.ex c x : Rs α).bind f = .ex c x := rfl
/-- no exception is let through -/
def Rs.calm {α : Type} : Rs α → Rs α
  | .ex _ _ => .st
  | r => r
@[simp] theorem Rs.calm_ok {α : Type} (a : α) : (Rs.ok a).calm = .ok a := rfl
@[simp] theorem Rs.calm_st {α : Type} : (Rs.st : Rs α).calm = .st := rfl
def ofO {α : Type} : Option α → Rs α
  | some a => .ok a
  | none => .st
@[simp] theorem ofO_some {α : Type} (a : α) : ofO (some a) = .ok a := rfl
@[simp] theorem ofO_none {α : Type} : ofO (none : Option α) = .st := rfl
/-- go on if -/
def gd (b : Bool) : Rs Unit := if b then .ok () else .st

/-- an operand: data; the list that slot i owns (read when it is used); a new list -/
inductive Op where
  | d (x : D) | rf (i : Nat) | nw (xs : List D)
/-- a slot: nothing is known; data; an owned list (p: a parameter's, changed for the caller) -/
inductive Sl where
  | un | d (x : D) | ol (p : Bool) (xs : List D)
abbrev Env := List Sl
def Env.at (ρ : Env) (i : Nat) : Sl := ρ.getD i .un
def isOl : Sl → Option Unit
  | .ol _ _ => some ()
  | _ => none
def rd (ρ : Env) : Op → Option D
  | .d x => some x
  | .nw xs => some (.lst xs)
  | .rf i => match ρ.at i with
    | .d x => some x
    | .ol _ xs => some (.lst xs)
    | .un => none
/-- the operand is kept somewhere: an owned list is owned no longer -/
def tk (ρ : Env) : Op → Option (D × Env)
  | .d x => some (x, ρ)
  | .nw xs => some (.lst xs, ρ)
  | .rf i => match ρ.at i with
    | .d x => some (x, ρ)
    | .ol false xs => some (.lst xs, ρ.set i (.d (.lst xs)))
    | _ => none

/-! ### operations -/
inductive O1 where
  | neg | len | abs | toInt | isN | notN | sum | any | all | toLst | toTup | sorted | mx | mn | repr | not | isI | isB | isS | isTup | isLst | rev
inductive O2 where
  | add | sub | mul | fdiv | mod | pow | lt | le | gt | ge | eq | ne | isB | notB | inn | nin | ix | mx | mn | dm
def mulOk (i j : Int) : Bool := (decide (-(2 ^ 64) < i) && decide (i < 2 ^ 64)) || (decide (-(2 ^ 64) < j) && decide (j < 2 ^ 64))
def line : Nat := 16777216
def dInts : List D → Option (List Int)
  | [] => some []
  | .int i :: r => (dInts r).map (i :: ·)
  | _ :: _ => none
def dBls : List D → Option (List Bool)
  | [] => some []
  | .bl i :: r => (dBls r).map (i :: ·)
  | _ :: _ => none
def truth : D → Option Bool
  | .non => some false
  | .bl b => some b
  | .int i => some (i != 0)
  | .str s => if s.length ≤ line then some (!s.isEmpty) else none
  | .lst xs => some (!xs.isEmpty)
  | .tup xs => some (!xs.isEmpty)
  | _ => none
def items : D → Option (List D)
  | .lst xs => some xs
  | .tup xs => some xs
  | _ => none
def okEq (x : D) : Bool := x.plain && decide (x.dep ≤ 64)
def okShow (x : D) : Bool := x.plain && (x.shw && (decide (x.dep ≤ 64) && decide (x.sz ≤ line)))
def ixN (n : Nat) (i : Int) : Option Nat := if 0 ≤ i then (if i < n then some i.toNat else none) else if -(n : Int) ≤ i then some (i + n).toNat else none
def atI {α : Type} (xs : List α) (i : Int) : Option α := (ixN xs.length i).bind fun j => xs[j]?
def maxL : List Int → Int
  | [] => 0
  | [x] => x
  | x :: r => max x (maxL r)
def minL : List Int → Int
  | [] => 0
  | [x] => x
  | x :: r => min x (minL r)
def isNon : D → Bool
  | .non => true
  | _ => false
def sem1 : O1 → D → Option Op
  | .neg, .int i => some (.d (.int (-i)))
  | .len, .lst xs => some (.d (.int xs.length))
  | .len, .tup xs => some (.d (.int xs.length))
  | .len, .fz xs => some (.d (.int xs.length))
  | .len, .str s => if s.length ≤ line then some (.d (.int s.length)) else none
  | .abs, .int i => some (.d (.int (if i < 0 then -i else i)))
  | .toInt, .int i => some (.d (.int i))
  | .toInt, .bl b => some (.d (.int (if b then 1 else 0)))
  | .isN, x => some (.d (.bl (isNon x)))
  | .notN, x => some (.d (.bl (!isNon x)))
  | .sum, .lst xs => (dInts xs).bind fun ns => some (.d (.int ns.sum))
  | .any, .lst xs => (dBls xs).bind fun bs => some (.d (.bl (bs.any id)))
  | .all, .lst xs => (dBls xs).bind fun bs => some (.d (.bl (bs.all id)))
  | .toLst, .lst xs => some (.nw xs)
  | .toLst, .tup xs => some (.nw xs)
  | .toTup, .lst xs => some (.d (.tup xs))
  | .toTup, .tup xs => some (.d (.tup xs))
  | .mx, .lst xs => (dInts xs).bind fun ns => if ns.length = 0 then none else some (.d (.int (maxL ns)))
  | .mx, .tup xs => (dInts xs).bind fun ns => if ns.length = 0 then none else some (.d (.int (maxL ns)))
  | .mn, .lst xs => (dInts xs).bind fun ns => if ns.length = 0 then none else some (.d (.int (minL ns)))
  | .mn, .tup xs => (dInts xs).bind fun ns => if ns.length = 0 then none else some (.d (.int (minL ns)))
  | .sorted, .lst xs => if sortOk xs then some (.nw (xs.mergeSort leD)) else none
  | .sorted, .tup xs => if sortOk xs then some (.nw (xs.mergeSort leD)) else none
  | .rev, .lst xs => some (.nw xs.reverse)
  | .repr, x => if okShow x then some (.d (.rp x)) else none
  | .not, .bl b => some (.d (.bl (!b)))
  | .isI, x => (match x with
    | .int _ => some (.d (.bl true))
    | .bl _ => some (.d (.bl true))
    | .fn _ _ => none
    | .fz _ => none
    | _ => some (.d (.bl false)))
  | .isB, x => (match x with
    | .bl _ => some (.d (.bl true))
    | .fn _ _ => none
    | .fz _ => none
    | _ => some (.d (.bl false)))
  | .isS, x => (match x with
    | .str _ => some (.d (.bl true))
    | .rp _ => some (.d (.bl true))
    | .fn _ _ => none
    | .fz _ => none
    | _ => some (.d (.bl false)))
  | .isTup, x => (match x with
    | .tup _ => some (.d (.bl true))
    | .fn _ _ => none
    | .fz _ => none
    | _ => some (.d (.bl false)))
  | .isLst, x => (match x with
    | .lst _ => some (.d (.bl true))
    | .fn _ _ => none
    | .fz _ => none
    | _ => some (.d (.bl false)))
  | _, _ => none
def isT1 : D → D → Option Bool
  | .bl a, .bl b => some (decide (a = b))
  | _, _ => none
def sem2 : O2 → D → D → Option Op
  | .add, .int i, .int j => some (.d (.int (i + j)))
  | .add, .lst xs, .lst ys => if xs.length + ys.length ≤ line then some (.nw (xs ++ ys)) else none
  | .add, .tup xs, .tup ys => if xs.length + ys.length ≤ line then some (.d (.tup (xs ++ ys))) else none
  | .add, .str xs, .str ys => if xs.length + ys.length ≤ line then some (.d (.str (xs ++ ys))) else none
  | .sub, .int i, .int j => some (.d (.int (i - j)))
  | .mul, .int i, .int j => if mulOk i j then some (.d (.int (i * j))) else none
  | .fdiv, .int i, .int j => if 0 < j ∧ j < 1073741824 then some (.d (.int (i / j))) else none
  | .mod, .int i, .int j => if 0 < j then some (.d (.int (i % j))) else none
  | .pow, .int i, .int j => if 0 ≤ j ∧ j ≤ 1000000 ∧ i.natAbs < 2 ^ 64 then some (.d (.int (i ^ j.toNat))) else none
  | .dm, .int i, .int j => if 0 < j ∧ j < 1073741824 then some (.d (.tup [.int (i / j), .int (i % j)])) else none
  | .lt, .int i, .int j => some (.d (.bl (decide (i < j))))
  | .le, .int i, .int j => some (.d (.bl (decide (i ≤ j))))
  | .gt, .int i, .int j => some (.d (.bl (decide (j < i))))
  | .ge, .int i, .int j => some (.d (.bl (decide (j ≤ i))))
  | .eq, .rp x, .rp y => if D.beq x y then some (.d (.bl true)) else none
  | .ne, .rp x, .rp y => if D.beq x y then some (.d (.bl false)) else none
  | .eq, x, y => if okEq x && okEq y then some (.d (.bl (D.eqv x y))) else none
  | .ne, x, y => if okEq x && okEq y then some (.d (.bl (!D.eqv x y))) else none
  | .isB, x, y => (isT1 x y).bind fun b => some (.d (.bl b))
  | .notB, x, y => (isT1 x y).bind fun b => some (.d (.bl (!b)))
  | .inn, x, .lst ys => if okEq x && okEq (.lst ys) then some (.d (.bl (ys.any fun y => D.eqv y x))) else none
  | .nin, x, .lst ys => if okEq x && okEq (.lst ys) then some (.d (.bl (!ys.any fun y => D.eqv y x))) else none
  | .ix, .lst xs, .int i => (atI xs i).bind fun v => some (.d v)
  | .ix, .tup xs, .int i => (atI xs i).bind fun v => some (.d v)
  | .ix, .fz xs, .int i => (atI xs i).bind fun v => some (.d v)
  | .mx, .int i, .int j => some (.d (.int (if j > i then j else i)))
  | .mn, .int i, .int j => some (.d (.int (if j < i then j else i)))
  | _, _, _ => none
def sIx (n d : Nat) : Option Int → Nat
  | none => d
  | some v => if v < 0 then (v + (n : Int)).toNat else min v.toNat n
def cut {α : Type} (xs : List α) (lo hi : Option Int) : List α := (xs.drop (sIx xs.length 0 lo)).take (sIx xs.length xs.length hi - sIx xs.length 0 lo)
def semSl : D → Option Int → Option Int → Option Op
  | .lst xs, lo, hi => some (.nw (cut xs lo hi))
  | .fz xs, lo, hi => some (.nw (cut xs lo hi))
  | .tup xs, lo, hi => some (.d (.tup (cut xs lo hi)))
  | _, _, _ => none
def ofInt : D → Option Int
  | .int i => some i
  | _ => none
def ofBl : D → Option Bool
  | .bl i => some i
  | _ => none

def opInt : Op → Option Int
  | .d (.int i) => some i
  | _ => none

/-! ### the little language -/
inductive Tg where
  | name (i : Nat)
  /-- x[k], x in slot i, k written or in slot j -/
  | ixL (i : Nat) (k : Int)
  | ixV (i j : Nat)
  | nil | cons (a : Tg) (r : Tg)
  | tup (ts : Tg)
inductive Ex where
  | lit (d : D)
  | var (i : Nat)
  | glo (g : Nat)
  | u1 (o : O1) (a : Ex)
  | u2 (o : O2) (a b : Ex)
  | chain (o1 o2 : O2) (a b c : Ex)
  | sl (a lo hi : Ex)
  | omit
  | an (a b : Ex)
  | or (a b : Ex)
  | ite (t a b : Ex)
  | tup (es : Ex)
  | lst (es : Ex)
  | nil
  | cons (a r : Ex)
  /-- a def of the text; by keywords, pm: at which places of the written arguments the parameters stand -/
  | call (f : Nat) (es : Ex)
  | callK (f : Nat) (es ks : Ex) (pm : List Nat)
  /-- [elt for tg in it if c] ; vs: the slots of its own names -/
  | lc (tg : Tg) (it c elt : Ex) (vs : List Nat)
  /-- [elt for tg in it if c for tg1 in it1 if c1] ; vs1: the slots of tg1 -/
  | lc2 (tg : Tg) (it c : Ex) (tg1 : Tg) (it1 c1 elt : Ex) (vs vs1 : List Nat)
  /-- as tests: the truth of a; not -/
  | tr (a : Ex)
  | nt (a : Ex)
  /-- what is walked: a list or a tuple; range; enumerate; zip -/
  | walk (a : Ex)
  | rng1 (a : Ex)
  | rng2 (a b : Ex)
  | enum (a : Ex)
  | zip (a b : Ex)
  /-- list(range ..) -/
  | lrg (it : Ex)
  /-- methods of the list that slot i owns -/
  | app (i : Nat) (a : Ex)
  | popAt (i : Nat) (a : Ex)
inductive Cm where
  | skip
  | seq (a b : Cm)
  | asg (t : Tg) (e : Ex)
  /-- a, b, .. = e1, e2, .. for names -/
  | par (is : List Nat) (es : Ex)
  /-- x[k] = e, x in slot i -/
  | setIx (i : Nat) (k e : Ex)
  | expr (e : Ex)
  | iff (t : Ex) (a b : Cm)
  | for_ (t : Tg) (it : Ex) (b : Cm)
  | whl (t : Ex) (b : Cm)
  | ret (e : Ex)
  | retN
  | brk
  | cnt
  | raise (c : Nat) (e : Ex)
  /-- nothing is said of it -/
  | none
inductive Fl where
  | nx | bk | ct | rt (o : Op)

/-- the defs: which parameters are in-out; the constants; what the defs give -/
structure Ctx where
  io : Nat → List Bool
  cst : Nat → D
  /-- arguments (in-out ones by content) to the answer and the in-out ones' contents behind it -/
  fn : Nat → List Sl → Rs (Op × List (List D))
  /-- turns of a while -/
  wf : Nat

/-! ### targets -/
def setAt (ρ : Env) (i : Nat) (k : Int) (x : D) : Option Env := match ρ.at i with
  | .ol p xs => (match ixN xs.length k with
    | some j => some (ρ.set i (.ol p (xs.set j x)))
    | none => none)
  | _ => none
mutual
def asgT : Tg → D → Env → Option Env
  | .name i, x, ρ => some (ρ.set i (.d x))
  | .ixL i k, x, ρ => setAt ρ i k x
  | .ixV i j, x, ρ => (match ρ.at j with
    | .d (.int k) => setAt ρ i k x
    | _ => none)
  | .tup ts, x, ρ => (match x with
    | .tup xs => asgTs ts xs ρ
    | _ => none)
  | .nil, _, _ => none
  | .cons _ _, _, _ => none
def asgTs : Tg → List D → Env → Option Env
  | .nil, [], ρ => some ρ
  | .cons a r, x :: xs, ρ => (asgT a x ρ).bind fun ρ1 => asgTs r xs ρ1
  | _, _, _ => none
end
/-- an operand at a name -/
def put (i : Nat) (o : Op) (ρ : Env) : Option Env := match o with
  | .nw xs => some (ρ.set i (.ol false xs))
  | .d x => some (ρ.set i (.d x))
  | .rf j => (tk ρ (.rf j)).bind fun q => some (q.2.set i (.d q.1))
def puts : List Nat → List Op → Env → Option Env
  | [], [], ρ => some ρ
  | i :: r, o :: os, ρ => (put i o ρ).bind fun ρ1 => puts r os ρ1
  | _, _, _ => none
def wipeE (ρ : Env) : List Nat → Env
  | [] => ρ
  | v :: vs => (wipeE ρ vs).set v .un
/-- the slots vs as they were ahead -/
def backE (ρ0 ρ : Env) : List Nat → Env
  | [] => ρ
  | v :: vs => (backE ρ0 ρ vs).set v (ρ0.at v)

/-- slots vs hold no owned list -/
def noOl (ρ : Env) : List Nat → Option Unit
  | [] => some ()
  | v :: vs => match ρ.at v with
    | .ol _ _ => none
    | _ => noOl ρ vs

/-! ### walks -/
def mapC (step : D → Env → Rs (Option D × Env)) : List D → Env → Rs (List D × Env)
  | [], ρ => .ok ([], ρ)
  | x :: xs, ρ => (step x ρ).bind fun q => (mapC step xs q.2).bind fun r => .ok (q.1.toList ++ r.1, r.2)
def mapC2 (step : D → Env → Rs (List D × Env)) : List D → Env → Rs (List D × Env)
  | [], ρ => .ok ([], ρ)
  | x :: xs, ρ => (step x ρ).bind fun q => (mapC2 step xs q.2).bind fun r => .ok (q.1 ++ r.1, r.2)
def loopF (body : D → Env → Rs (Fl × Env)) : List D → Env → Rs (Fl × Env)
  | [], ρ => .ok (.nx, ρ)
  | x :: xs, ρ => (body x ρ).bind fun q => match q.1 with
    | .nx => loopF body xs q.2
    | .ct => loopF body xs q.2
    | .bk => .ok (.nx, q.2)
    | .rt o => .ok (.rt o, q.2)
def loopW (test : Env → Rs (Bool × Env)) (body : Env → Rs (Fl × Env)) : Nat → Env → Rs (Fl × Env)
  | 0, _ => .st
  | n + 1, ρ => (test ρ).bind fun t => if t.1 then (body t.2).bind fun q => (match q.1 with
      | .nx => loopW test body n q.2
      | .ct => loopW test body n q.2
      | .bk => .ok (.nx, q.2)
      | .rt o => .ok (.rt o, q.2))
    else .ok (.nx, t.2)
def rangeD (lo hi : Int) : List D := (List.range (hi - lo).toNat).map fun i => D.int (lo + (i : Nat))
def rngOk (lo hi : Int) : Bool := decide (-(2 ^ 62) ≤ lo) && decide (lo < 2 ^ 62) && decide (-(2 ^ 62) ≤ hi) && decide (hi < 2 ^ 62)
def enumD : Nat → List D → List D
  | _, [] => []
  | i, x :: xs => .tup [.int i, x] :: enumD (i + 1) xs
def zipD : List D → List D → List D
  | x :: xs, y :: ys => .tup [x, y] :: zipD xs ys
  | _, _ => []
def lstOf : D → Option (List D)
  | .lst xs => some xs
  | _ => none
def zipO : D → D → Option (List D)
  | .lst xs, .lst ys => some (zipD xs ys)
  | .tup xs, .tup ys => some (zipD xs ys)
  | _, _ => none
/-- where in-out parameters stand behind the body -/
def outs : List Bool → Env → Option (List (List D))
  | [], _ => some []
  | true :: r, .ol true xs :: ρ => (outs r ρ).map (xs :: ·)
  | false :: r, _ :: ρ => outs r ρ
  | _, _ => none
/-- the callee's contents come back into the caller's slots -/
def backs : List (Option Nat) → List (List D) → Env → Option Env
  | [], [], ρ => some ρ
  | some i :: r, xs :: xr, ρ => (match ρ.at i with
    | .ol p _ => backs r xr (ρ.set i (.ol p xs))
    | _ => none)
  | none :: r, _ :: xr, ρ => backs r xr ρ
  | _, _, _ => none
def pick (xs : List D) : List Nat → Option (List D)
  | [] => some []
  | j :: r => (xs[j]?).bind fun x => (pick xs r).map (x :: ·)

/-! ### what it does -/
section
variable (C : Ctx)
mutual
def evE : Ex → Env → Rs (Op × Env)
  | .lit d, ρ => .ok (.d d, ρ)
  | .var i, ρ => (match ρ.at i with
    | .un => .st
    | .d x => .ok (.d x, ρ)
    | .ol _ _ => .ok (.rf i, ρ))
  | .glo g, ρ => .ok (.d (C.cst g), ρ)
  | .u1 o a, ρ => (evE a ρ).bind fun x => (ofO (rd x.2 x.1)).bind fun u => (ofO (sem1 o u)).bind fun r => .ok (r, x.2)
  | .u2 o a b, ρ => (evE a ρ).bind fun x => (evE b x.2).bind fun y => (ofO (rd y.2 x.1)).bind fun u => (ofO (rd y.2 y.1)).bind fun v => (ofO (sem2 o u v)).bind fun r => .ok (r, y.2)
  | .chain o1 o2 a b c, ρ => (evE a ρ).bind fun x => (evE b x.2).bind fun y => (ofO (rd y.2 x.1)).bind fun u => (ofO (rd y.2 y.1)).bind fun v => (ofO (sem2 o1 u v)).bind fun r => (match r with
    | .d (.bl true) => (evE c y.2).bind fun z => (ofO (rd z.2 y.1)).bind fun v => (ofO (rd z.2 z.1)).bind fun w => (ofO (sem2 o2 v w)).bind fun r => .ok (r, z.2)
    | .d (.bl false) => .ok (.d (.bl false), y.2)
    | _ => .st)
  | .sl a lo hi, ρ => (evE a ρ).bind fun x => (evP lo x.2).bind fun l => (evP hi l.2).bind fun h => (ofO (rd h.2 x.1)).bind fun u => (ofO (semSl u l.1 h.1)).bind fun r => .ok (r, h.2)
  | .an a b, ρ => (evE a ρ).bind fun x => (match x.1 with
    | .d (.bl true) => evE b x.2
    | .d (.bl false) => .ok (.d (.bl false), x.2)
    | _ => .st)
  | .or a b, ρ => (evE a ρ).bind fun x => (match x.1 with
    | .d (.bl true) => .ok (.d (.bl true), x.2)
    | .d (.bl false) => evE b x.2
    | _ => .st)
  | .ite t a b, ρ => (evT t ρ).bind fun x => if x.1 then evE a x.2 else evE b x.2
  | .tup es, ρ => (evA es ρ).bind fun x => if x.1.length ≤ line then .ok (.d (.tup x.1), x.2) else .st
  | .lst es, ρ => (evA es ρ).bind fun x => if x.1.length ≤ line then .ok (.nw x.1, x.2) else .st
  | .call f es, ρ => (evC (C.io f) es ρ).bind fun a => ((C.fn f a.1).calm).bind fun r => (ofO (backs a.2.1 r.2 a.2.2)).bind fun ρ' => (match r.1 with
    | .rf _ => .st
    | o => .ok (o, ρ'))
  | .callK f es ks pm, ρ => (evA es ρ).bind fun a => (evA ks a.2).bind fun b => (ofO (pick (a.1 ++ b.1) pm)).bind fun xs => ((C.fn f (xs.map .d)).calm).bind fun r => (match r with
    | (.rf _, _) => .st
    | (o, []) => .ok (o, b.2)
    | _ => .st)
  | .lc tg it c elt vs, ρ => (evI it ρ).bind fun x => (ofO (noOl x.2 vs)).bind fun _ => if x.1.length ≤ line then
      ((mapC (fun y ρ1 => (ofO (asgT tg y (wipeE ρ1 vs))).bind fun ρ2 => (evT c ρ2).bind fun t => if t.1 then (evE elt t.2).bind fun z => (ofO (tk z.2 z.1)).bind fun w => .ok (some w.1, w.2) else .ok (none, t.2)) x.1 x.2).calm).bind fun r =>
        .ok (.nw r.1, backE x.2 r.2 vs)
    else .st
  | .lc2 tg it c tg1 it1 c1 elt vs vs1, ρ => (evI it ρ).bind fun x => (ofO (noOl x.2 vs)).bind fun _ =>
      ((mapC2 (fun y ρ1 => (ofO (asgT tg y (wipeE ρ1 vs))).bind fun ρ2 => (evT c ρ2).bind fun t => if t.1 then (evI it1 t.2).bind fun q =>
          (mapC (fun y1 ρ3 => (ofO (asgT tg1 y1 (wipeE ρ3 vs1))).bind fun ρ4 => (evT c1 ρ4).bind fun t1 => if t1.1 then (evE elt t1.2).bind fun z => (ofO (tk z.2 z.1)).bind fun w => .ok (some w.1, w.2) else .ok (none, t1.2)) q.1 q.2).bind fun r => .ok (r.1, wipeE r.2 vs1)
        else .ok ([], t.2)) x.1 x.2).calm).bind fun r => if r.1.length ≤ line then .ok (.nw r.1, backE x.2 r.2 vs) else .st
  | .app i a, ρ => (ofO (isOl (ρ.at i))).bind fun _ => (evE a ρ).bind fun x => (ofO (tk x.2 x.1)).bind fun y => (match y.2.at i with
    | .ol p xs => if xs.length < line then .ok (.d .non, y.2.set i (.ol p (xs ++ [y.1]))) else .st
    | _ => .st)
  | .popAt i a, ρ => (ofO (isOl (ρ.at i))).bind fun _ => (evE a ρ).bind fun x => (ofO (opInt x.1)).bind fun k => (match x.2.at i with
    | .ol p xs => if xs.length ≤ line then (ofO (ixN xs.length k)).bind fun j => (ofO xs[j]?).bind fun y => .ok (.d y, x.2.set i (.ol p (xs.eraseIdx j))) else .st
    | _ => .st)
  | .lrg it, ρ => (evI it ρ).bind fun x => if x.1.length ≤ line then .ok (.nw x.1, x.2) else .st
  | .omit, _ => .st
  | .nil, _ => .st
  | .cons _ _, _ => .st
  | .tr _, _ => .st
  | .nt _, _ => .st
  | .walk _, _ => .st
  | .rng1 _, _ => .st
  | .rng2 _ _, _ => .st
  | .enum _, _ => .st
  | .zip _ _, _ => .st
/-- as tests -/
def evT : Ex → Env → Rs (Bool × Env)
  | .tr a, ρ => (evE a ρ).bind fun x => (ofO (rd x.2 x.1)).bind fun u => (ofO (truth u)).bind fun b => .ok (b, x.2)
  | .nt a, ρ => (evT a ρ).bind fun x => .ok (!x.1, x.2)
  | .an a b, ρ => (evT a ρ).bind fun x => if x.1 then evT b x.2 else .ok (false, x.2)
  | .or a b, ρ => (evT a ρ).bind fun x => if x.1 then .ok (true, x.2) else evT b x.2
  | .omit, ρ => .ok (true, ρ)
  | _, _ => .st
/-- displays, kept -/
def evA : Ex → Env → Rs (List D × Env)
  | .nil, ρ => .ok ([], ρ)
  | .cons a r, ρ => (evE a ρ).bind fun x => (ofO (tk x.2 x.1)).bind fun y => (evA r y.2).bind fun z => .ok (y.1 :: z.1, z.2)
  | _, _ => .st
/-- operands in a row -/
def evO : Ex → Env → Rs (List Op × Env)
  | .nil, ρ => .ok ([], ρ)
  | .cons a r, ρ => (evE a ρ).bind fun x => (match x.1 with
    | .nw xs => (evO r x.2).bind fun z => .ok (.nw xs :: z.1, z.2)
    | o => (ofO (tk x.2 o)).bind fun y => (evO r y.2).bind fun z => .ok (.d y.1 :: z.1, z.2))
  | _, _ => .st
/-- arguments: what the callee's slots are; the caller's slots of in-out ones -/
def evC : List Bool → Ex → Env → Rs (List Sl × List (Option Nat) × Env)
  | _, .nil, ρ => .ok ([], [], ρ)
  | true :: bs, .cons a r, ρ => (evE a ρ).bind fun x => (match x.1 with
    | .rf i => (evC bs r x.2).bind fun z => (match z.2.2.at i with
      | .ol _ xs => if some i ∈ z.2.1 then .st else .ok (.ol true xs :: z.1, some i :: z.2.1, z.2.2)
      | _ => .st)
    | .nw xs => (evC bs r x.2).bind fun z => if none ∈ z.2.1 then .st else .ok (.ol true xs :: z.1, none :: z.2.1, z.2.2)
    | .d _ => .st)
  | bs, .cons a r, ρ => (evE a ρ).bind fun x => (ofO (tk x.2 x.1)).bind fun y => (evC bs.tail r y.2).bind fun z => .ok (.d y.1 :: z.1, z.2)
  | _, _, _ => .st
/-- an optional int of a slice -/
def evP : Ex → Env → Rs (Option Int × Env)
  | .omit, ρ => .ok (none, ρ)
  | .tr a, ρ => (evE a ρ).bind fun x => (ofO (opInt x.1)).bind fun i => .ok (some i, x.2)
  | _, _ => .st
/-- what is walked -/
def evI : Ex → Env → Rs (List D × Env)
  | .walk a, ρ => (evE a ρ).bind fun x => (ofO (tk x.2 x.1)).bind fun y => (ofO (items y.1)).bind fun xs => .ok (xs, y.2)
  | .rng1 a, ρ => (evE a ρ).bind fun x => (ofO (opInt x.1)).bind fun i => if rngOk 0 i then .ok (rangeD 0 i, x.2) else .st
  | .rng2 a b, ρ => (evE a ρ).bind fun x => (ofO (opInt x.1)).bind fun i => (evE b x.2).bind fun y => (ofO (opInt y.1)).bind fun j => if rngOk i j then .ok (rangeD i j, y.2) else .st
  | .enum a, ρ => (evE a ρ).bind fun x => (ofO (tk x.2 x.1)).bind fun y => (ofO (lstOf y.1)).bind fun xs => .ok (enumD 0 xs, y.2)
  | .zip a b, ρ => (evE a ρ).bind fun x => (ofO (tk x.2 x.1)).bind fun y => (evE b y.2).bind fun x2 => (ofO (tk x2.2 x2.1)).bind fun z =>
      (ofO (zipO y.1 z.1)).bind fun xs => .ok (xs, z.2)
  | _, _ => .st
end
def exC : Cm → Env → Rs (Fl × Env)
  | .skip, ρ => .ok (.nx, ρ)
  | .seq a b, ρ => (exC a ρ).bind fun q => (match q.1 with
    | .nx => exC b q.2
    | f => .ok (f, q.2))
  | .asg t e, ρ => (evE C e ρ).bind fun x => (match t with
    | .name i => (ofO (put i x.1 x.2)).bind fun ρ' => .ok (.nx, ρ')
    | t => (ofO (tk x.2 x.1)).bind fun y => (ofO (asgT t y.1 y.2)).bind fun ρ' => .ok (.nx, ρ'))
  | .par is es, ρ => (evO C es ρ).bind fun x => (ofO (puts is x.1 x.2)).bind fun ρ' => .ok (.nx, ρ')
  | .setIx i k e, ρ => (evE C e ρ).bind fun x => (ofO (tk x.2 x.1)).bind fun y => (ofO (isOl (y.2.at i))).bind fun _ => (evE C k y.2).bind fun z => (ofO (opInt z.1)).bind fun k => (ofO (setAt z.2 i k y.1)).bind fun ρ' => .ok (.nx, ρ')
  | .expr e, ρ => (evE C e ρ).bind fun x => .ok (.nx, x.2)
  | .iff t a b, ρ => (evT C t ρ).bind fun x => if x.1 then exC a x.2 else exC b x.2
  | .for_ t it b, ρ => (evI C it ρ).bind fun x => loopF (fun y ρ1 => (ofO (asgT t y ρ1)).bind fun ρ2 => exC b ρ2) x.1 x.2
  | .whl t b, ρ => loopW (evT C t) (exC b) C.wf ρ
  | .ret e, ρ => (evE C e ρ).bind fun x => (match x.1 with
    | .rf i => (match x.2.at i with
      | .d y => .ok (.rt (.d y), x.2)
      | .ol false xs => .ok (.rt (.nw xs), x.2.set i .un)
      | _ => .st)
    | o => .ok (.rt o, x.2))
  | .retN, ρ => .ok (.rt (.d .non), ρ)
  | .brk, ρ => .ok (.bk, ρ)
  | .cnt, ρ => .ok (.ct, ρ)
  | .raise c e, ρ => (evE C e ρ).bind fun x => (ofO (tk x.2 x.1)).bind fun y => .ex c y.1
  | .none, _ => .st
end
/-- a def: its in-out parameters, all its slots, its body -/
structure Fd where
  io : List Bool
  np : Nat
  n : Nat
  body : Cm
/-- in-out arguments stand where they should -/
def alB : List Bool → List Sl → Bool
  | true :: r, .ol true _ :: as => alB r as
  | false :: r, .d _ :: as => alB r as
  | [], .d _ :: as => alB [] as
  | [], [] => true
  | _, _ => false
def startE (n : Nat) (as : List Sl) : Env := as ++ List.replicate (n - as.length) .un
def endF (io : List Bool) (q : Fl × Env) : Rs (Op × List (List D)) := match q.1 with
  | .nx => (ofO (outs io q.2)).bind fun o => .ok (.d .non, o)
  | .rt (.rf _) => .st
  | .rt x => (ofO (outs io q.2)).bind fun o => .ok (x, o)
  | _ => .st
def runF (C : Ctx) (F : Fd) (as : List Sl) : Rs (Op × List (List D)) := if alB F.io as && as.length == F.np then (exC C F.body (startE F.n as)).bind (endF F.io) else .st
/-- the whole: defs, constants, a bound of the turns of whiles -/
structure Pg where
  fds : List Fd
  csts : List D
  wf : Nat
def Pg.ctx (P : Pg) (fn : Nat → List Sl → Rs (Op × List (List D))) : Ctx := ⟨fun k => match P.fds[k]? with
  | some F => F.io
  | none => [], fun g => P.csts.getD g .non, fn, P.wf⟩
def Pg.sem (P : Pg) : Nat → Nat → List Sl → Rs (Op × List (List D))
  | 0, _, _ => .st
  | n + 1, k, as => match P.fds[k]? with
    | some F => runF (P.ctx (P.sem n)) F as
    | none => .st
end MP
/-! MB: how plain data lie in the abstract heap. Own work. -/
namespace MP
open PySem
open PySem.Spec
open PyProof.Rows
open L2

/-! ### data in the heap, apart from the owned addresses A -/
def KLu (K : PySem.W.Frag) (a : Addr) (xs : List V) : Prop := ∃ (o : Obj) (its : Array Value) (n : Nat), K.lookup a = some o ∧ o.cls = .type "list" ∧ o.dict = none ∧ o.data = .seq its n ∧ its.size ≤ sizeLine ∧ Vals xs its.toList
def KTp (K : PySem.W.Frag) (a : Addr) (xs : List V) : Prop := ∃ (o : Obj) (its : Array Value) (n : Nat), K.lookup a = some o ∧ o.cls = .type "tuple" ∧ o.data = .seq its n ∧ its.size ≤ sizeLine ∧ Vals xs its.toList
mutual
def toPy : D → PyData
  | .non => .none
  | .bl b => .bool b
  | .int i => .int i
  | .str s => .str ⟨s.toArray⟩
  | .lst xs => .list (toPys xs)
  | .tup xs => .tuple (toPys xs)
  | .rp _ => .none
  | .fn _ _ => .none
  | .fz _ => .none
def toPys : List D → List PyData
  | [] => []
  | x :: xs => toPy x :: toPys xs
end
mutual
inductive RepA (K : PySem.W.Frag) (A : Addr → Prop) (H : Hp) : V → D → Prop
  | non : RepA K A H .non .non
  | bl (b : Bool) : RepA K A H (.bl b) (.bl b)
  | int (i : Int) : RepA K A H (.int i) (.int i)
  | str (s : List Nat) : RepA K A H (.str ⟨s.toArray⟩) (.str s)
  | tup {a : Addr} {xs : List V} {ds : List D} : Rd H a (.tup xs) → ¬ A a → RepAs K A H xs ds → RepA K A H (.ref a) (.tup ds)
  | tupK {a : Addr} {xs : List V} {ds : List D} : KTp K a xs → RepAs K A H xs ds → RepA K A H (.ref a) (.tup ds)
  | lst {a : Addr} {xs : List V} {ds : List D} : H a = some (.lst xs) → ¬ A a → RepAs K A H xs ds → RepA K A H (.ref a) (.lst ds)
  | fz {a : Addr} {xs : List V} {ds : List D} : (Rd H a (.lst xs) ∧ ¬ A a) ∨ KLu K a xs → RepAs K A H xs ds → RepA K A H (.ref a) (.fz ds)
  | rp (d : D) : RepA K A H (.str (toPy d).shown) (.rp d)
inductive RepAs (K : PySem.W.Frag) (A : Addr → Prop) (H : Hp) : List V → List D → Prop
  | nil : RepAs K A H [] []
  | cons {v : V} {vs : List V} {d : D} {ds : List D} : RepA K A H v d → RepAs K A H vs ds → RepAs K A H (v :: vs) (d :: ds)
end
/-- what is not owned stays, and is not owned -/
def Fr (A : Addr → Prop) (H : Hp) (A' : Addr → Prop) (H' : Hp) : Prop := ∀ a o, H a = some o → ¬ A a → H' a = some o ∧ ¬ A' a
theorem Fr.refl {A : Addr → Prop} {H : Hp} : Fr A H A H := fun _ _ h n => ⟨h, n⟩
theorem Fr.trans {A A1 A2 : Addr → Prop} {H H1 H2 : Hp} (f : Fr A H A1 H1) (g : Fr A1 H1 A2 H2) : Fr A H A2 H2 := fun a o h n => g a o (f a o h n).1 (f a o h n).2
theorem Fr.rd {A A' : Addr → Prop} {H H' : Hp} {a : Addr} {u : HO} (f : Fr A H A' H') (r : Rd H a u) (n : ¬ A a) : Rd H' a u ∧ ¬ A' a := by
  rcases r with r | ⟨o, r⟩
  · exact ⟨.inl (f _ _ r n).1, (f _ _ r n).2⟩
  · exact ⟨.inr ⟨o, (f _ _ r n).1⟩, (f _ _ r n).2⟩
section
variable {K : PySem.W.Frag} {A A' : Addr → Prop} {H H' : Hp}
mutual
theorem RepA.mono (f : Fr A H A' H') : ∀ {v : V} {d : D}, RepA K A H v d → RepA K A' H' v d
  | _, _, .non => .non
  | _, _, .bl b => .bl b
  | _, _, .int i => .int i
  | _, _, .str s => .str s
  | _, _, .tup r n rs => .tup (f.rd r n).1 (f.rd r n).2 (RepAs.mono f rs)
  | _, _, .tupK k rs => .tupK k (RepAs.mono f rs)
  | _, _, .lst r n rs => .lst (f _ _ r n).1 (f _ _ r n).2 (RepAs.mono f rs)
  | _, _, .fz r rs => .fz (r.elim (fun r => .inl (f.rd r.1 r.2)) .inr) (RepAs.mono f rs)
  | _, _, .rp d => .rp d
theorem RepAs.mono (f : Fr A H A' H') : ∀ {vs : List V} {ds : List D}, RepAs K A H vs ds → RepAs K A' H' vs ds
  | _, _, .nil => .nil
  | _, _, .cons r rs => .cons (RepA.mono f r) (RepAs.mono f rs)
end
theorem RepAs.length : ∀ {vs : List V} {ds : List D}, RepAs K A H vs ds → vs.length = ds.length
  | _, _, .nil => rfl
  | _, _, .cons _ rs => congrArg Nat.succ (RepAs.length rs)
theorem RepAs.get : ∀ {vs : List V} {ds : List D} {i : Nat} {d : D}, RepAs K A H vs ds → ds[i]? = some d → ∃ v, vs[i]? = some v ∧ RepA K A H v d
  | _, _, _, _, .nil, e => by simp at e
  | _, _, 0, _, .cons r _, e => by simp at e; subst e; exact ⟨_, rfl, r⟩
  | _, _, i + 1, d, .cons _ rs, e => by
    obtain ⟨v, h1, h2⟩ := RepAs.get (i := i) (d := d) rs (by simpa using e)
    exact ⟨v, by simpa using h1, h2⟩
theorem RepAs.getV : ∀ {vs : List V} {ds : List D} {i : Nat} {v : V}, RepAs K A H vs ds → vs[i]? = some v → ∃ d, ds[i]? = some d ∧ RepA K A H v d
  | _, _, _, _, .nil, e => by simp at e
  | _, _, 0, _, .cons r _, e => by simp at e; subst e; exact ⟨_, rfl, r⟩
  | _, _, i + 1, d, .cons _ rs, e => by
    obtain ⟨v, h1, h2⟩ := RepAs.getV (i := i) rs (by simpa using e)
    exact ⟨v, by simpa using h1, h2⟩
theorem RepAs.append : ∀ {vs ws : List V} {ds es : List D}, RepAs K A H vs ds → RepAs K A H ws es → RepAs K A H (vs ++ ws) (ds ++ es)
  | _, _, _, _, .nil, s => s
  | _, _, _, _, .cons r rs, s => .cons r (RepAs.append rs s)
theorem RepAs.set {v : V} {d : D} (r : RepA K A H v d) : ∀ {vs : List V} {ds : List D} (i : Nat), RepAs K A H vs ds → RepAs K A H (vs.set i v) (ds.set i d)
  | _, _, _, .nil => .nil
  | _, _, 0, .cons _ rs => .cons r rs
  | _, _, i + 1, .cons q rs => .cons q (RepAs.set r i rs)
theorem RepAs.erase : ∀ {vs : List V} {ds : List D} (i : Nat), RepAs K A H vs ds → RepAs K A H (vs.eraseIdx i) (ds.eraseIdx i)
  | _, _, _, .nil => .nil
  | _, _, 0, .cons _ rs => rs
  | _, _, i + 1, .cons q rs => .cons q (RepAs.erase i rs)
theorem RepAs.take : ∀ {vs : List V} {ds : List D} (n : Nat), RepAs K A H vs ds → RepAs K A H (vs.take n) (ds.take n)
  | _, _, 0, _ => by simp; exact .nil
  | _, _, _ + 1, .nil => .nil
  | _, _, n + 1, .cons q rs => .cons q (RepAs.take n rs)
theorem RepAs.drop : ∀ {vs : List V} {ds : List D} (n : Nat), RepAs K A H vs ds → RepAs K A H (vs.drop n) (ds.drop n)
  | _, _, 0, rs => rs
  | _, _, _ + 1, .nil => .nil
  | _, _, n + 1, .cons _ rs => RepAs.drop n rs
theorem RepAs.snoc {vs : List V} {ds : List D} {v : V} {d : D} (rs : RepAs K A H vs ds) (r : RepA K A H v d) : RepAs K A H (vs ++ [v]) (ds ++ [d]) := rs.append (.cons r .nil)
/-- ints -/
theorem RepAs.toInts : ∀ {vs : List V} {ds : List D} {ns : List Int}, RepAs K A H vs ds → dInts ds = some ns → vs = ns.map V.int
  | _, _, ns, .nil, e => by
    simp [MP.dInts] at e
    subst e; rfl
  | _, _, ns, .cons (d := d) (ds := ds) r rs, e => by
    cases d <;> simp [MP.dInts] at e
    obtain ⟨ms, e1, e2⟩ := e
    subst e2
    cases r
    rw [RepAs.toInts rs e1]
    rfl
theorem RepAs.toBls : ∀ {vs : List V} {ds : List D} {ns : List Bool}, RepAs K A H vs ds → dBls ds = some ns → vs = ns.map V.bl
  | _, _, ns, .nil, e => by
    simp [MP.dBls] at e
    subst e; rfl
  | _, _, ns, .cons (d := d) (ds := ds) r rs, e => by
    cases d <;> simp [MP.dBls] at e
    obtain ⟨ms, e1, e2⟩ := e
    subst e2
    cases r
    rw [RepAs.toBls rs e1]
    rfl
theorem repInts : ∀ (ns : List Int), RepAs K A H (ns.map V.int) (ns.map D.int)
  | [] => .nil
  | n :: r => .cons (.int n) (repInts r)
theorem KTp.sq {a : Addr} {xs : List V} (h : KTp K a xs) : SqT K H a xs := .inr h
/-- a list, read: its own address may be owned -/
def RdL (K : PySem.W.Frag) (A : Addr → Prop) (H : Hp) (v : V) (ds : List D) : Prop := ∃ a xs, v = .ref a ∧ H a = some (.lst xs) ∧ RepAs K A H xs ds
def RdT (K : PySem.W.Frag) (A : Addr → Prop) (H : Hp) (v : V) (ds : List D) : Prop := ∃ a xs, v = .ref a ∧ SqT K H a xs ∧ RepAs K A H xs ds
/-- data, read -/
def RdD (K : PySem.W.Frag) (A : Addr → Prop) (H : Hp) (v : V) : D → Prop
  | .lst ds => RdL K A H v ds
  | d => RepA K A H v d
theorem RepA.rdL {v : V} {ds : List D} (r : RepA K A H v (.lst ds)) : RdL K A H v ds := by
  cases r with
  | lst r n rs => exact ⟨_, _, rfl, r, rs⟩
theorem RepA.rdT {v : V} {ds : List D} (r : RepA K A H v (.tup ds)) : RdT K A H v ds := by
  cases r with
  | tup r n rs => exact ⟨_, _, rfl, .inl r, rs⟩
  | tupK k rs => exact ⟨_, _, rfl, .inr k, rs⟩
theorem RepA.rd {v : V} {d : D} (r : RepA K A H v d) : RdD K A H v d := by
  cases d with
  | lst ds => exact r.rdL
  | _ => exact r
end
end MP
/-! MC: a state of the little language and the frame's. Own work. -/
namespace MP
open PySem
open PySem.Spec
open PyProof.Rows
open L2

/-- a def's running: what was owned, the heap at the entry; what it may write -/
structure Act where
  A0 : Addr → Prop
  H0 : Hp
  Wr : Addr → Prop
  /-- where the in-out parameters stand -/
  pa : Nat → Addr
abbrev Ow := Addr → Prop
def Own (σ : L2.St) (ρ : Env) (a : Addr) : Prop := ∃ i p xs, ρ.at i = .ol p xs ∧ σ[i]? = some (some (.ref a))
/-- heap and owned ones, since the entry -/
structure Hs (Z : Act) (A : Ow) (H : Hp) : Prop where
  dom : ∀ a, A a → H a ≠ none
  sub : ∀ a, Z.A0 a → A a
  old : ∀ a o, Z.H0 a = some o → ¬ Z.Wr a → H a = some o
  oldd : ∀ a, Z.H0 a ≠ none → H a ≠ none
  dom0 : ∀ a, Z.A0 a → Z.H0 a ≠ none
  wr0 : ∀ a, Z.Wr a → Z.A0 a
def SlR (K : PySem.W.Frag) (Z : Act) (A : Ow) (H : Hp) (i : Nat) (s : Option V) : Sl → Prop
  | .un => True
  | .d x => ∃ v, s = some v ∧ RepA K A H v x
  | .ol p xs => ∃ a vs, s = some (.ref a) ∧ A a ∧ H a = some (.lst vs) ∧ RepAs K A H vs xs ∧ (if p then a = Z.pa i ∧ Z.Wr a else Z.H0 a = none)
structure SR (K : PySem.W.Frag) (Z : Act) (A : Ow) (σ : L2.St) (H : Hp) (ρ : Env) : Prop where
  hs : Hs Z A H
  len : ρ.length = σ.length
  sl : ∀ i, i < σ.length → SlR K Z A H i (σ.getD i none) (ρ.at i)
  inj : ∀ i j a p q xs ys, i ≠ j → ρ.at i = .ol p xs → ρ.at j = .ol q ys → σ[i]? = some (some (.ref a)) → σ[j]? ≠ some (some (.ref a))
/-- a step of an expression -/
structure Ev (σ : L2.St) (ρ : Env) (A : Ow) (H : Hp) (ρ' : Env) (A' : Ow) (H' : Hp) : Prop where
  fr : Fr A H A' H'
  keep : ∀ a o, H a = some o → ¬ Own σ ρ a → H' a = some o
  own : ∀ a, A a → ¬ Own σ ρ a → A' a
  mono : ∀ a, Own σ ρ' a → Own σ ρ a
  dom : ∀ a, H a ≠ none → H' a ≠ none
  nun : ∀ i, ρ.at i ≠ .un → ρ'.at i ≠ .un
def OpV (K : PySem.W.Frag) (Z : Act) (σ : L2.St) (ρ : Env) (A : Ow) (H : Hp) (v : V) : Op → Prop
  | .d x => RepA K A H v x
  | .rf i => σ[i]? = some (some v) ∧ ρ.at i ≠ .un
  | .nw xs => ∃ p vs, v = .ref p ∧ A p ∧ ¬ Own σ ρ p ∧ H p = some (.lst vs) ∧ RepAs K A H vs xs ∧ Z.H0 p = none
/-- a new list's address is new -/
def Fresh (H : Hp) (v : V) : Op → Prop
  | .nw _ => ∃ p, v = .ref p ∧ H p = none
  | _ => True
section
variable {K : PySem.W.Frag} {Z : Act} {A A' A1 A2 : Ow} {σ : L2.St} {H H' H1 H2 : Hp} {ρ ρ' ρ1 ρ2 : Env} {v : V} {o : Op}
theorem Ev.refl : Ev σ ρ A H ρ A H := ⟨Fr.refl, fun _ _ h _ => h, fun _ h _ => h, fun _ h => h, fun _ h => h, fun _ h => h⟩
theorem Ev.trans (a : Ev σ ρ A H ρ1 A1 H1) (b : Ev σ ρ1 A1 H1 ρ2 A2 H2) : Ev σ ρ A H ρ2 A2 H2 :=
  ⟨a.fr.trans b.fr, fun x o h n => b.keep x o (a.keep x o h n) fun q => n (a.mono x q), fun x h n => b.own x (a.own x h n) fun q => n (a.mono x q), fun x h => a.mono x (b.mono x h), fun x h => b.dom x (a.dom x h), fun i h => b.nun i (a.nun i h)⟩
theorem at_lt {ρ : Env} {i : Nat} {s : Sl} (h : ρ.at i = s) (n : s ≠ .un) : i < ρ.length := by
  by_cases q : i < ρ.length
  · exact q
  · exfalso
    apply n
    rw [← h]
    unfold Env.at
    rw [List.getD_eq_getElem?_getD, List.getElem?_eq_none (by omega)]
    rfl
theorem getD_some {σ : L2.St} {i : Nat} {v : V} (h : σ.getD i none = some v) : σ[i]? = some (some v) := by
  rw [List.getD_eq_getElem?_getD] at h
  cases e : σ[i]? with
  | none => rw [e] at h; cases h
  | some u => rw [e] at h; exact congrArg some h
theorem some_getD {σ : L2.St} {i : Nat} {v : V} (h : σ[i]? = some (some v)) : σ.getD i none = some v := by
  rw [List.getD_eq_getElem?_getD, h]; rfl
theorem SR.data (S : SR K Z A σ H ρ) {i : Nat} {x : D} (e : ρ.at i = .d x) : ∃ v, σ[i]? = some (some v) ∧ RepA K A H v x := by
  have h := at_lt e (fun q => nomatch q)
  have q := S.sl i (by rw [← S.len]; exact h)
  rw [e] at q
  obtain ⟨v, e1, r⟩ := q
  exact ⟨v, getD_some e1, r⟩
theorem SR.olist (S : SR K Z A σ H ρ) {i : Nat} {p : Bool} {xs : List D} (e : ρ.at i = .ol p xs) :
    ∃ a vs, σ[i]? = some (some (.ref a)) ∧ A a ∧ H a = some (.lst vs) ∧ RepAs K A H vs xs ∧ (if p then a = Z.pa i ∧ Z.Wr a else Z.H0 a = none) ∧ Own σ ρ a := by
  have h := at_lt e (fun q => nomatch q)
  have q := S.sl i (by rw [← S.len]; exact h)
  rw [e] at q
  obtain ⟨a, vs, e1, r1, r2, r3, r4⟩ := q
  exact ⟨a, vs, getD_some e1, r1, r2, r3, r4, i, p, xs, e, getD_some e1⟩
theorem OpV.step (r : OpV K Z σ ρ A H v o) (e : Ev σ ρ A H ρ' A' H') : OpV K Z σ ρ' A' H' v o := by
  cases o with
  | d x => exact RepA.mono e.fr r
  | rf i => exact ⟨r.1, e.nun i r.2⟩
  | nw xs =>
    obtain ⟨p, vs, e1, r1, r2, r3, r4, r5⟩ := r
    exact ⟨p, vs, e1, e.own p r1 r2, fun q => r2 (e.mono p q), e.keep p _ r3 r2, RepAs.mono e.fr r4, r5⟩
/-- an operand as data, read -/
theorem OpV.rd {x : D} (r : OpV K Z σ ρ A H v o) (S : SR K Z A σ H ρ) (e : rd ρ o = some x) : RdD K A H v x := by
  cases o with
  | d y =>
    simp [MP.rd] at e
    subst e
    exact RepA.rd r
  | nw xs =>
    simp [MP.rd] at e
    subst e
    obtain ⟨p, vs, e1, r1, r2, r3, r4, r5⟩ := r
    exact ⟨p, vs, e1, r3, r4⟩
  | rf i =>
    cases q : ρ.at i with
    | un => exact absurd q r.2
    | d y =>
      simp [MP.rd, q] at e
      subst e
      obtain ⟨u, e1, e2⟩ := S.data q
      rw [r.1] at e1
      cases e1
      exact RepA.rd e2
    | ol p xs =>
      simp [MP.rd, q] at e
      subst e
      obtain ⟨a, vs, e1, r1, r2, r3, r4, r5⟩ := S.olist q
      rw [r.1] at e1
      cases e1
      exact ⟨a, vs, rfl, r2, r3⟩
theorem at_set_eq {ρ : Env} {i : Nat} {s : Sl} (h : i < ρ.length) : Env.at (ρ.set i s) i = s := by
  unfold Env.at
  rw [List.getD_eq_getElem?_getD, List.getElem?_set_self h]
  rfl
theorem at_set_ne {ρ : Env} {i j : Nat} {s : Sl} (h : i ≠ j) : Env.at (ρ.set i s) j = ρ.at j := by
  unfold Env.at
  rw [List.getD_eq_getElem?_getD, List.getD_eq_getElem?_getD, List.getElem?_set_ne h]
theorem at_none {ρ : Env} {i : Nat} (h : ¬ i < ρ.length) : ρ.at i = .un := by
  unfold Env.at
  rw [List.getD_eq_getElem?_getD, List.getElem?_eq_none (by omega)]
  rfl
/-- the owned list at slot i is owned no longer -/
theorem SR.freeze (S : SR K Z A σ H ρ) {i : Nat} {xs : List D} (e : ρ.at i = .ol false xs) : ∃ A' a, σ[i]? = some (some (.ref a)) ∧ SR K Z A' σ H (ρ.set i (.d (.lst xs))) ∧ Ev σ ρ A H (ρ.set i (.d (.lst xs))) A' H ∧ RepA K A' H (.ref a) (.lst xs) := by
  obtain ⟨a, vs, e1, r1, r2, r3, r4, r5⟩ := S.olist e
  have r4' : Z.H0 a = none := r4
  have hl := at_lt e (fun q => nomatch q)
  have f : Fr A H (fun b => A b ∧ b ≠ a) H := fun b o h n => ⟨h, fun q => n q.1⟩
  have rep : RepA K (fun b => A b ∧ b ≠ a) H (.ref a) (.lst xs) := .lst r2 (fun q => q.2 rfl) (RepAs.mono f r3)
  refine ⟨fun b => A b ∧ b ≠ a, a, e1, ⟨⟨fun b h => S.hs.dom b h.1, fun b h => ⟨S.hs.sub b h, fun q => ?_⟩, S.hs.old, S.hs.oldd, S.hs.dom0, S.hs.wr0⟩, by rw [List.length_set]; exact S.len, fun j hj => ?_, fun j k b p q ys zs hjk hj hk h1 h2 => ?_⟩, ⟨f, fun b o h _ => h, fun b h n => ⟨h, fun q => n (by rw [q]; exact r5)⟩, fun b h => ?_, fun _ h => h, fun j h => ?_⟩, rep⟩
  · exact S.hs.dom0 b h (by rw [q]; exact r4')
  · by_cases hij : i = j
    · subst hij
      rw [at_set_eq hl]
      exact ⟨.ref a, some_getD e1, rep⟩
    · rw [at_set_ne hij]
      have q := S.sl j hj
      cases e2 : ρ.at j with
      | un => trivial
      | d x =>
        rw [e2] at q
        obtain ⟨v, q1, q2⟩ := q
        exact ⟨v, q1, RepA.mono f q2⟩
      | ol p ys =>
        rw [e2] at q
        obtain ⟨b, ws, q1, q2, q3, q4, q5⟩ := q
        refine ⟨b, ws, q1, ⟨q2, fun z => ?_⟩, q3, RepAs.mono f q4, q5⟩
        subst z
        exact S.inj i j b _ _ _ _ hij e e2 e1 (getD_some q1)
  · have n1 : i ≠ j := fun z => by subst z; rw [at_set_eq hl] at hj; cases hj
    have n2 : i ≠ k := fun z => by subst z; rw [at_set_eq hl] at hk; cases hk
    rw [at_set_ne n1] at hj
    rw [at_set_ne n2] at hk
    exact S.inj j k b _ _ _ _ hjk hj hk h1 h2
  · obtain ⟨j, p, ys, h1, h2⟩ := h
    have n1 : i ≠ j := fun z => by subst z; rw [at_set_eq hl] at h1; cases h1
    rw [at_set_ne n1] at h1
    exact ⟨j, p, ys, h1, h2⟩
  · by_cases hij : i = j
    · subst hij
      rw [at_set_eq hl]
      exact fun z => nomatch z
    · rw [at_set_ne hij]; exact h
/-- an operand, kept -/
theorem OpV.tk {x : D} {ρ0 ρ' : Env} {B : Ow} {H0 : Hp} (r : OpV K Z σ ρ A H v o) (S : SR K Z A σ H ρ) (E0 : Ev σ ρ0 B H0 ρ A H) (F : Fresh H0 v o) (hB : ∀ a, B a → H0 a ≠ none) (e : tk ρ o = some (x, ρ')) :
    ∃ A', SR K Z A' σ H ρ' ∧ Ev σ ρ0 B H0 ρ' A' H ∧ RepA K A' H v x := by
  cases o with
  | d y =>
    simp [MP.tk] at e
    obtain ⟨rfl, rfl⟩ := e
    exact ⟨A, S, E0, r⟩
  | rf i =>
    cases q : ρ.at i with
    | un => exact absurd q r.2
    | d y =>
      simp [MP.tk, q] at e
      obtain ⟨rfl, rfl⟩ := e
      obtain ⟨u, e1, e2⟩ := S.data q
      rw [r.1] at e1
      cases e1
      exact ⟨A, S, E0, e2⟩
    | ol p xs =>
      cases p with
      | true => simp [MP.tk, q] at e
      | false =>
        simp [MP.tk, q] at e
        obtain ⟨rfl, rfl⟩ := e
        obtain ⟨A', a, e1, S', E', R⟩ := S.freeze q
        rw [r.1] at e1
        cases e1
        exact ⟨A', S', E0.trans E', R⟩
  | nw xs =>
    simp [MP.tk] at e
    obtain ⟨rfl, rfl⟩ := e
    obtain ⟨p, vs, rfl, r1, r2, r3, r4, r5⟩ := r
    obtain ⟨p', ep, hp⟩ := F
    cases ep
    have f : Fr A H (fun b => A b ∧ b ≠ p) H := fun b o h n => ⟨h, fun q => n q.1⟩
    refine ⟨fun b => A b ∧ b ≠ p, ⟨⟨fun b h => S.hs.dom b h.1, fun b h => ⟨S.hs.sub b h, fun q => S.hs.dom0 b h (by rw [q]; exact r5)⟩, S.hs.old, S.hs.oldd, S.hs.dom0, S.hs.wr0⟩, S.len, fun j hj => ?_, S.inj⟩,
      ⟨E0.fr.trans f, E0.keep, fun b h n => ⟨E0.own b h n, fun q => hB b h (by rw [q]; exact hp)⟩, E0.mono, E0.dom, E0.nun⟩, .lst r3 (fun q => q.2 rfl) (RepAs.mono f r4)⟩
    have q := S.sl j hj
    cases e2 : ρ.at j with
    | un => trivial
    | d x =>
      rw [e2] at q
      obtain ⟨v, q1, q2⟩ := q
      exact ⟨v, q1, RepA.mono f q2⟩
    | ol p' ys =>
      rw [e2] at q
      obtain ⟨b, ws, q1, q2, q3, q4, q5⟩ := q
      refine ⟨b, ws, q1, ⟨q2, fun z => ?_⟩, q3, RepAs.mono f q4, q5⟩
      subst z
      exact r2 ⟨j, p', ys, e2, getD_some q1⟩
end

/-! ### what an operation leaves -/
def Ext (H H' : Hp) : Prop := ∀ a o, H a = some o → H' a = some o
theorem Ext.refl {H : Hp} : Ext H H := fun _ _ h => h
theorem Ext.new {H : Hp} {p : Addr} {o : HO} (h : H p = none) : Ext H (upd H p o) := fun a u e => by
  rw [upd_ne (ne_of_none e h)]; exact e
def Res (K : PySem.W.Frag) (A : Ow) (H : Hp) (v : V) (A' : Ow) (H' : Hp) : Op → Prop
  | .d x => A' = A ∧ Ext H H' ∧ RepA K A H' v x
  | .nw xs => ∃ p vs, v = .ref p ∧ H p = none ∧ A' = (fun b => A b ∨ b = p) ∧ Ext H H' ∧ H' p = some (.lst vs) ∧ RepAs K A H vs xs
  | .rf _ => False
section
variable {K : PySem.W.Frag} {Z : Act} {A A' A1 A2 : Ow} {σ : L2.St} {H H' H1 H2 : Hp} {ρ ρ' ρ1 ρ2 : Env} {v : V} {o : Op}
theorem Ext.fr (e : Ext H H') : Fr A H A H' := fun a o h n => ⟨e a o h, n⟩
theorem Ext.dom (e : Ext H H') {a : Addr} (h : H a ≠ none) : H' a ≠ none := by
  cases q : H a with
  | none => exact absurd q h
  | some o => rw [e a o q]; exact fun z => nomatch z
theorem fr_new {p : Addr} (e : Ext H H') (hp : H p = none) : Fr A H (fun b => A b ∨ b = p) H' := fun a o h n => ⟨e a o h, fun q => q.elim n fun z => by rw [z, hp] at h; cases h⟩
theorem SlR.mono (f : Fr A H A' H') {i : Nat} {s : Option V} {x : Sl} (h : SlR K Z A H i s x) (ho : ∀ p xs a, x = .ol p xs → s = some (.ref a) → A' a ∧ H' a = H a) : SlR K Z A' H' i s x := by
  cases x with
  | un => trivial
  | d x => obtain ⟨v, e, r⟩ := h; exact ⟨v, e, RepA.mono f r⟩
  | ol p xs =>
    obtain ⟨a, vs, e, r1, r2, r3, r4⟩ := h
    obtain ⟨q1, q2⟩ := ho p xs a rfl e
    exact ⟨a, vs, e, q1, by rw [q2]; exact r2, RepAs.mono f r3, r4⟩
/-- the heap grows -/
theorem SR.grow (S : SR K Z A σ H ρ) (e : Ext H H') : SR K Z A σ H' ρ :=
  ⟨⟨fun a h => e.dom (S.hs.dom a h), S.hs.sub, fun a o h n => e a o (S.hs.old a o h n), fun a h => e.dom (S.hs.oldd a h), S.hs.dom0, S.hs.wr0⟩, S.len,
    fun i hi => (S.sl i hi).mono e.fr fun p xs a h1 h2 => by
      have q := S.sl i hi
      rw [h1] at q
      obtain ⟨b, vs, q1, q2, q3, _⟩ := q
      rw [h2] at q1
      cases q1
      exact ⟨q2, by rw [q3]; exact e _ _ q3⟩, S.inj⟩
theorem SR.grow_new (S : SR K Z A σ H ρ) (e : Ext H H') {p : Addr} (hp : H p = none) (hp' : H' p ≠ none) : SR K Z (fun b => A b ∨ b = p) σ H' ρ :=
  ⟨⟨fun a h => h.elim (fun h => e.dom (S.hs.dom a h)) (fun z => by rw [z]; exact hp'), fun a h => .inl (S.hs.sub a h), fun a o h n => e a o (S.hs.old a o h n), fun a h => e.dom (S.hs.oldd a h), S.hs.dom0, S.hs.wr0⟩, S.len,
    fun i hi => (S.sl i hi).mono (fr_new e hp) fun q xs a h1 h2 => by
      have z := S.sl i hi
      rw [h1] at z
      obtain ⟨b, vs, q1, q2, q3, _⟩ := z
      rw [h2] at q1
      cases q1
      exact ⟨.inl q2, by rw [q3]; exact e _ _ q3⟩, S.inj⟩
theorem Own.there (S : SR K Z A σ H ρ) {a : Addr} (h : Own σ ρ a) : A a ∧ ∃ vs, H a = some (.lst vs) := by
  obtain ⟨i, p, xs, h1, h2⟩ := h
  obtain ⟨b, vs, e1, r1, r2, _⟩ := S.olist h1
  rw [h2] at e1
  cases e1
  exact ⟨r1, vs, r2⟩
theorem Ev.grow (e : Ext H H') : Ev σ ρ A H ρ A H' := ⟨e.fr, fun a o h _ => e a o h, fun _ h _ => h, fun _ h => h, fun _ h => e.dom h, fun _ h => h⟩
theorem Ev.grow_new (e : Ext H H') {p : Addr} (hp : H p = none) : Ev σ ρ A H ρ (fun b => A b ∨ b = p) H' := ⟨fr_new e hp, fun a o h _ => e a o h, fun _ h _ => .inl h, fun _ h => h, fun _ h => e.dom h, fun _ h => h⟩
/-- behind an operation -/
theorem Res.go (r : Res K A H v A' H' o) (S : SR K Z A σ H ρ) : SR K Z A' σ H' ρ ∧ Ev σ ρ A H ρ A' H' ∧ OpV K Z σ ρ A' H' v o ∧ Fresh H v o := by
  cases o with
  | rf i => exact r.elim
  | d x =>
    obtain ⟨rfl, e, q⟩ := r
    exact ⟨S.grow e, Ev.grow e, q, trivial⟩
  | nw xs =>
    obtain ⟨p, vs, rfl, hp, rfl, e, h1, h2⟩ := r
    refine ⟨S.grow_new e hp (by rw [h1]; exact fun z => nomatch z), Ev.grow_new e hp, ⟨p, vs, rfl, .inr rfl, fun q => ?_, h1, RepAs.mono (fr_new e hp) h2, ?_⟩, p, rfl, hp⟩
    · obtain ⟨_, ws, z⟩ := Own.there S q
      rw [hp] at z; cases z
    · cases z : Z.H0 p with
      | none => rfl
      | some u => exact absurd hp (S.hs.oldd p (by rw [z]; exact fun z => nomatch z))
end

/-! ### readings -/
structure Gd where
  K : PySem.W.Frag
  exc : Nat → Addr × Str
def ExR (G : Gd) (A : Ow) (H : Hp) (cls : Value) (d : Option Addr) (c : Nat) (x : D) : Prop :=
  ∃ dd v, cls = .ref (G.exc c).1 ∧ d = some dd ∧ H dd = some (.xd [((G.exc c).2, v)]) ∧ ¬ A dd ∧ RepA G.K A H v x
def Out (G : Gd) (Z : Act) (W : WX) (σ : L2.St) (A : Ow) (H : Hp) {β : Type} (r : Rs β) (P : β → Prop) : Prop := match r with
  | .st => False
  | .ex c x => ∀ cls d A' H', Fr A H A' H' → Hs Z A' H' → ExR G A' H' cls d c x → W cls d σ H'
  | .ok b => P b
section
variable {G : Gd} {Z : Act} {W : WX} {σ : L2.St} {A A' A1 : Ow} {H H' H1 : Hp} {β γ : Type} {r : Rs β} {P P' : β → Prop} {ρ : Env}
theorem Out.bind {g : β → Rs γ} {P : γ → Prop} (h : Out G Z W σ A H (r.bind g) P) : Out G Z W σ A H r fun b => Out G Z W σ A H (g b) P := by
  cases r with
  | st => exact h
  | ex c x => exact h
  | ok b => exact h
theorem Out.move (f : Fr A H A1 H1) (h : Out G Z W σ A H r P) : Out G Z W σ A1 H1 r P := by
  cases r with
  | st => exact h
  | ex c x => exact fun cls d A' H' q => h cls d A' H' (f.trans q)
  | ok b => exact h
theorem Out.mono (h : Out G Z W σ A H r P) (m : ∀ b, r = .ok b → P b → P' b) : Out G Z W σ A H r P' := by
  cases r with
  | st => exact h
  | ex c x => exact h
  | ok b => exact m b rfl h
theorem Out.ok {b : β} (h : Out G Z W σ A H (.ok b) P) : P b := h
theorem Out.ofO {o : Option β} {g : β → Rs γ} {P : γ → Prop} (h : Out G Z W σ A H ((ofO o).bind g) P) : ∃ b, o = some b ∧ Out G Z W σ A H (g b) P := by
  cases o with
  | none => exact h.elim
  | some b => exact ⟨b, rfl, h⟩
end
/-- what is wanted of an operand -/
def PO' (G : Gd) (Z : Act) (σ : L2.St) (A : Ow) (H : Hp) (ρ : Env) (Q : VK) (r : Op × Env) : Prop :=
  ∀ v A' H', SR G.K Z A' σ H' r.2 → Ev σ ρ A H r.2 A' H' → OpV G.K Z σ r.2 A' H' v r.1 → Fresh H v r.1 → Q v H'
def tE (G : Gd) (Z : Act) (W : WX) (f : Env → Rs (Op × Env)) : TE := fun σ H Q => ∃ A ρ, SR G.K Z A σ H ρ ∧ Out G Z W σ A H (f ρ) (PO' G Z σ A H ρ Q)
/-- .. of a test -/
def tB' (G : Gd) (Z : Act) (W : WX) (f : Env → Rs (Bool × Env)) : TT := fun σ H Q => ∃ A ρ, SR G.K Z A σ H ρ ∧ Out G Z W σ A H (f ρ) fun r => ∀ A' H', SR G.K Z A' σ H' r.2 → Ev σ ρ A H r.2 A' H' → Q r.1 H'
/-- .. of several data -/
def tAs (G : Gd) (Z : Act) (W : WX) (f : Env → Rs (List D × Env)) : TA := fun σ H Q => ∃ A ρ, SR G.K Z A σ H ρ ∧ Out G Z W σ A H (f ρ) fun r => ∀ vs A' H', SR G.K Z A' σ H' r.2 → Ev σ ρ A H r.2 A' H' → RepAs G.K A' H' vs r.1 → Q vs H'
section
variable {X : Cx} {e : Expr} {t t' : TE}
theorem PE.imp (h : PE X e t) (m : ∀ σ H Q, t' σ H Q → t σ H Q) : PE X e t' := ⟨fun pins s σ H Q I q => h.run pins s σ H Q I (m σ H Q q)⟩
theorem PT.imp {t t' : TT} (h : PT X e t) (m : ∀ σ H Q, t' σ H Q → t σ H Q) : PT X e t' := ⟨fun pins s σ H Q I q => h.run pins s σ H Q I (m σ H Q q)⟩
theorem PW.imp {t t' : TT} (h : PW X e t) (m : ∀ σ H Q, t' σ H Q → t σ H Q) : PW X e t' := ⟨fun whole pins s σ H Q I q => h.run whole pins s σ H Q I (m σ H Q q)⟩
theorem PA.imp {es : List Expr} {t t' : TA} (h : PA X es t) (m : ∀ σ H Q, t' σ H Q → t σ H Q) : PA X es t' := ⟨fun pos pins s σ H Q I q => h.run pos pins s σ H Q I (m σ H Q q)⟩
theorem PS.imp {st : Stmt} {t t' : TS} (h : PS X st t) (m : ∀ D σ H, t' D σ H → t D σ H) : PS X st t' := ⟨fun pins s σ H D I q => h.run pins s σ H D I (m D σ H q)⟩
theorem PSs.imp {st : List Stmt} {t t' : TS} (h : PSs X st t) (m : ∀ D σ H, t' D σ H → t D σ H) : PSs X st t' := ⟨fun pins s σ H D I q => h.run pins s σ H D I (m D σ H q)⟩
end
end MP
/-! MD: expressions. Own work. -/
namespace MP
open PySem
open PySem.Spec
open PyProof.Rows
open L2

section
variable {G : Gd} {Z : Act} {W : WX} {C : Ctx}
/-- an operation's rule -/
def Rule1 (K : PySem.W.Frag) (f : D → Option Op) (r : V → Hp → VK → Prop) : Prop :=
  ∀ (A : Ow) (H : Hp) (x : V) (u : D) (o : Op) (Q : VK), (∀ a, A a → H a ≠ none) → RdD K A H x u → f u = some o → (∀ v A' H', Res K A H v A' H' o → Q v H') → r x H Q
def Rule2 (K : PySem.W.Frag) (f : D → D → Option Op) (r : R2) : Prop :=
  ∀ (A : Ow) (H : Hp) (x y : V) (u v : D) (o : Op) (Q : VK), (∀ a, A a → H a ≠ none) → RdD K A H x u → RdD K A H y v → f u v = some o → (∀ v A' H', Res K A H v A' H' o → Q v H') → r x y H Q
theorem e_lit {d : D} {v : V} (hv : ∀ A H, RepA G.K A H v d) : ∀ σ H Q, tE G Z W (evE C (.lit d)) σ H Q → tC v σ H Q := fun σ H Q ⟨A, ρ, S, N⟩ => by
  simp only [evE] at N
  exact N.ok v A H S Ev.refl (hv _ _) trivial
theorem e_var {i : Nat} : ∀ σ H Q, tE G Z W (evE C (.var i)) σ H Q → tVar i σ H Q := fun σ H Q ⟨A, ρ, S, N⟩ => by
  simp only [evE] at N
  cases e : ρ.at i with
  | un => rw [e] at N; exact N.elim
  | d x =>
    rw [e] at N
    obtain ⟨v, e1, r⟩ := S.data e
    exact ⟨v, e1, N.ok v A H S Ev.refl r trivial⟩
  | ol p xs =>
    rw [e] at N
    obtain ⟨a, vs, e1, r1, r2, r3, r4, r5⟩ := S.olist e
    exact ⟨_, e1, N.ok _ A H S Ev.refl ⟨e1, by rw [e]; exact fun z => nomatch z⟩ trivial⟩
theorem e_u1 {o : O1} {a : Ex} {r : V → Hp → VK → Prop} (hr : Rule1 G.K (sem1 o) r) : ∀ σ H Q, tE G Z W (evE C (.u1 o a)) σ H Q → tE G Z W (evE C a) σ H fun x H1 => r x H1 Q := fun σ H Q ⟨A, ρ, S, N⟩ => by
  simp only [evE] at N
  refine ⟨A, ρ, S, N.bind.mono fun x e N1 => fun v A1 H1 S1 E1 R1 F1 => ?_⟩
  obtain ⟨u, e2, N2⟩ := N1.ofO
  obtain ⟨w, e3, N3⟩ := N2.ofO
  refine hr A1 H1 v u w Q S1.hs.dom (R1.rd S1 e2) e3 fun v' A' H' q => ?_
  obtain ⟨S2, E2, R2, F2⟩ := q.go S1
  refine N3.ok v' A' H' S2 (E1.trans E2) R2 ?_
  cases w with
  | d x => trivial
  | rf i => trivial
  | nw xs =>
    obtain ⟨p, ep, hp⟩ := F2
    refine ⟨p, ep, ?_⟩
    cases z : H p with
    | none => rfl
    | some o => exact absurd hp (E1.dom p (by rw [z]; exact fun z => nomatch z))
theorem fresh_back {σ : L2.St} {ρ ρ' : Env} {A A' : Ow} {H H' : Hp} {v : V} {o : Op} (E : Ev σ ρ A H ρ' A' H') (F : Fresh H' v o) : Fresh H v o := by
  cases o with
  | d x => trivial
  | rf i => trivial
  | nw xs =>
    obtain ⟨p, ep, hp⟩ := F
    refine ⟨p, ep, ?_⟩
    cases z : H p with
    | none => rfl
    | some o => exact absurd hp (E.dom p (by rw [z]; exact fun z => nomatch z))
/-- two operands in a row -/
theorem e_two {a b : Ex} {ρ : Env} {A : Ow} {σ : L2.St} {H : Hp} {R : V → V → Hp → Prop} {k : Op × Env → Op × Env → Rs (Op × Env)} {P : Op × Env → Prop} (S : SR G.K Z A σ H ρ)
    (N : Out G Z W σ A H ((evE C a ρ).bind fun x => (evE C b x.2).bind fun y => k x y) P)
    (h : ∀ x y v u A1 H1, Out G Z W σ A H (k x y) P → SR G.K Z A1 σ H1 y.2 → Ev σ ρ A H y.2 A1 H1 → OpV G.K Z σ y.2 A1 H1 v x.1 → OpV G.K Z σ y.2 A1 H1 u y.1 → R v u H1) :
    tE G Z W (evE C a) σ H fun x H1 => tE G Z W (evE C b) σ H1 fun y H2 => R x y H2 := by
  refine ⟨A, ρ, S, N.bind.mono fun x e N1 => fun v A1 H1 S1 E1 R1 F1 => ?_⟩
  refine ⟨A1, x.2, S1, (Out.move E1.fr N1.bind).mono fun y e N2 => fun u A2 H2 S2 E2 R2 F2 => ?_⟩
  exact h x y v u A2 H2 N2 S2 (E1.trans E2) (R1.step E2) R2
theorem e_u2 {o : O2} {a b : Ex} {r : R2} (hr : Rule2 G.K (sem2 o) r) : ∀ σ H Q, tE G Z W (evE C (.u2 o a b)) σ H Q → tOp r (tE G Z W (evE C a)) (tE G Z W (evE C b)) σ H Q := fun σ H Q ⟨A, ρ, S, N⟩ => by
  simp only [evE] at N
  refine e_two S N fun x y v u A1 H1 N1 S1 E1 R1 R2 => ?_
  obtain ⟨p, e2, N2⟩ := N1.ofO
  obtain ⟨q, e3, N3⟩ := N2.ofO
  obtain ⟨w, e4, N4⟩ := N3.ofO
  refine hr A1 H1 v u p q w Q S1.hs.dom (R1.rd S1 e2) (R2.rd S1 e3) e4 fun v' A' H' q => ?_
  obtain ⟨S2, E2, R2, F2⟩ := q.go S1
  exact N4.ok v' A' H' S2 (E1.trans E2) R2 (fresh_back E1 F2)
/-- a comparison of three -/
theorem e_chain {o1 o2 : O2} {a b c : Ex} {r r' : R2} (hr : Rule2 G.K (sem2 o1) r) (hr' : Rule2 G.K (sem2 o2) r') :
    ∀ σ H Q, tE G Z W (evE C (.chain o1 o2 a b c)) σ H Q → tChain r r' (tE G Z W (evE C a)) (tE G Z W (evE C b)) (tE G Z W (evE C c)) σ H Q := fun σ H Q ⟨A, ρ, S, N⟩ => by
  simp only [evE] at N
  refine e_two S N fun x y v u A1 H1 N1 S1 E1 R1 R2 => ?_
  obtain ⟨p, e2, N2⟩ := N1.ofO
  obtain ⟨q, e3, N3⟩ := N2.ofO
  obtain ⟨w, e4, N4⟩ := N3.ofO
  refine hr A1 H1 v u p q w _ S1.hs.dom (R1.rd S1 e2) (R2.rd S1 e3) e4 fun v' A' H' q => ?_
  obtain ⟨S2, E2, R3, F2⟩ := q.go S1
  cases w with
  | rf i => exact N4.elim
  | nw xs => exact N4.elim
  | d w =>
    cases w with
    | bl k =>
      cases R3
      refine ⟨k, rfl, ?_⟩
      cases k with
      | false => exact N4.ok _ A' H' S2 (E1.trans E2) (.bl false) trivial
      | true =>
        refine ⟨A', y.2, S2, (Out.move ((E1.trans E2).fr) N4).bind.mono fun z e5 N5 => fun v3 A3 H3 S3 E3 R4 F4 => ?_⟩
        obtain ⟨p', e6, N6⟩ := N5.ofO
        obtain ⟨q', e7, N7⟩ := N6.ofO
        obtain ⟨w', e8, N8⟩ := N7.ofO
        refine hr' A3 H3 u v3 p' q' w' Q S3.hs.dom (((R2.step E2).step E3).rd S3 e6) (R4.rd S3 e7) e8 fun v4 A4 H4 q4 => ?_
        obtain ⟨S4, E4, R5, F5⟩ := q4.go S3
        exact N8.ok v4 A4 H4 S4 (((E1.trans E2).trans E3).trans E4) R5 (fresh_back ((E1.trans E2).trans E3) F5)
    | _ => exact N4.elim
/-- and, or of truths, as values -/
theorem e_an {a b : Ex} : ∀ σ H Q, tE G Z W (evE C (.an a b)) σ H Q → tAndV (tE G Z W (evE C a)) (tE G Z W (evE C b)) σ H Q := fun σ H Q ⟨A, ρ, S, N⟩ => by
  simp only [evE] at N
  refine ⟨A, ρ, S, N.bind.mono fun x e N1 => fun v A1 H1 S1 E1 R1 F1 => ?_⟩
  obtain ⟨o, ρ1⟩ := x
  cases o with
  | rf i => exact N1.elim
  | nw xs => exact N1.elim
  | d w =>
    cases w with
    | bl k =>
      cases R1
      refine ⟨k, rfl, ?_⟩
      cases k with
      | false => exact N1.ok _ A1 H1 S1 E1 (.bl false) trivial
      | true => exact ⟨A1, ρ1, S1, (Out.move E1.fr N1).mono fun y e2 N2 => fun u A2 H2 S2 E2 R2 F2 => N2 u A2 H2 S2 (E1.trans E2) R2 (fresh_back E1 F2)⟩
    | _ => exact N1.elim
theorem e_or {a b : Ex} : ∀ σ H Q, tE G Z W (evE C (.or a b)) σ H Q → tOrV (tE G Z W (evE C a)) (tE G Z W (evE C b)) σ H Q := fun σ H Q ⟨A, ρ, S, N⟩ => by
  simp only [evE] at N
  refine ⟨A, ρ, S, N.bind.mono fun x e N1 => fun v A1 H1 S1 E1 R1 F1 => ?_⟩
  obtain ⟨o, ρ1⟩ := x
  cases o with
  | rf i => exact N1.elim
  | nw xs => exact N1.elim
  | d w =>
    cases w with
    | bl k =>
      cases R1
      refine ⟨k, rfl, ?_⟩
      cases k with
      | true => exact N1.ok _ A1 H1 S1 E1 (.bl true) trivial
      | false => exact ⟨A1, ρ1, S1, (Out.move E1.fr N1).mono fun y e2 N2 => fun u A2 H2 S2 E2 R2 F2 => N2 u A2 H2 S2 (E1.trans E2) R2 (fresh_back E1 F2)⟩
    | _ => exact N1.elim
theorem e_ite {t a b : Ex} : ∀ σ H Q, tE G Z W (evE C (.ite t a b)) σ H Q → tIf (tB' G Z W (evT C t)) (tE G Z W (evE C a)) (tE G Z W (evE C b)) σ H Q := fun σ H Q ⟨A, ρ, S, N⟩ => by
  simp only [evE] at N
  refine ⟨A, ρ, S, N.bind.mono fun x e N1 => fun A1 H1 S1 E1 => ?_⟩
  obtain ⟨k, ρ1⟩ := x
  cases k with
  | true => exact ⟨A1, ρ1, S1, (Out.move E1.fr N1).mono fun y e2 N2 => fun u A2 H2 S2 E2 R2 F2 => N2 u A2 H2 S2 (E1.trans E2) R2 (fresh_back E1 F2)⟩
  | false => exact ⟨A1, ρ1, S1, (Out.move E1.fr N1).mono fun y e2 N2 => fun u A2 H2 S2 E2 R2 F2 => N2 u A2 H2 S2 (E1.trans E2) R2 (fresh_back E1 F2)⟩
/-! ### tests -/
def TruD (K : PySem.W.Frag) : Prop := ∀ (A : Ow) (H : Hp) (x : V) (u : D) (b : Bool), RdD K A H x u → truth u = some b → TruV K x H b
theorem t_tr {a : Ex} (hT : TruD G.K) : ∀ σ H Q, tB' G Z W (evT C (.tr a)) σ H Q → tE G Z W (evE C a) σ H fun x H1 => ∃ k, TruV G.K x H1 k ∧ Q k H1 := fun σ H Q ⟨A, ρ, S, N⟩ => by
  simp only [evT] at N
  refine ⟨A, ρ, S, N.bind.mono fun x e N1 => fun v A1 H1 S1 E1 R1 F1 => ?_⟩
  obtain ⟨u, e2, N2⟩ := N1.ofO
  obtain ⟨b, e3, N3⟩ := N2.ofO
  exact ⟨b, hT A1 H1 v u b (R1.rd S1 e2) e3, N3.ok A1 H1 S1 E1⟩
/-- .. of a truth -/
theorem t_trB {a : Ex} : ∀ σ H Q, tB' G Z W (evT C (.tr a)) σ H Q → (∀ ρ x, evE C a ρ = .ok x → ∃ b, x.1 = .d (.bl b)) → tE G Z W (evE C a) σ H fun x H1 => ∃ c, x = .bl c ∧ Q c H1 := fun σ H Q ⟨A, ρ, S, N⟩ hb => by
  simp only [evT] at N
  refine ⟨A, ρ, S, N.bind.mono fun x e N1 => fun v A1 H1 S1 E1 R1 F1 => ?_⟩
  obtain ⟨b, eb⟩ := hb ρ x e
  obtain ⟨u, e2, N2⟩ := N1.ofO
  obtain ⟨b', e3, N3⟩ := N2.ofO
  obtain ⟨o, ρ1⟩ := x
  cases eb
  simp [MP.rd] at e2
  subst e2
  simp [truth] at e3
  subst e3
  cases R1
  exact ⟨b, rfl, N3.ok A1 H1 S1 E1⟩
theorem t_nt {a : Ex} : ∀ σ H Q, tB' G Z W (evT C (.nt a)) σ H Q → tNot (tB' G Z W (evT C a)) σ H Q := fun σ H Q ⟨A, ρ, S, N⟩ => by
  simp only [evT] at N
  exact ⟨A, ρ, S, N.bind.mono fun x e N1 => fun A1 H1 S1 E1 => N1.ok A1 H1 S1 E1⟩
theorem t_an {a b : Ex} : ∀ σ H Q, tB' G Z W (evT C (.an a b)) σ H Q → tAnd (tB' G Z W (evT C a)) (tB' G Z W (evT C b)) σ H Q := fun σ H Q ⟨A, ρ, S, N⟩ => by
  simp only [evT] at N
  refine ⟨A, ρ, S, N.bind.mono fun x e N1 => fun A1 H1 S1 E1 => ?_⟩
  obtain ⟨k, ρ1⟩ := x
  cases k with
  | true => exact ⟨A1, ρ1, S1, (Out.move E1.fr N1).mono fun y e2 N2 => fun A2 H2 S2 E2 => N2 A2 H2 S2 (E1.trans E2)⟩
  | false => exact N1.ok A1 H1 S1 E1
theorem t_or {a b : Ex} : ∀ σ H Q, tB' G Z W (evT C (.or a b)) σ H Q → tOr (tB' G Z W (evT C a)) (tB' G Z W (evT C b)) σ H Q := fun σ H Q ⟨A, ρ, S, N⟩ => by
  simp only [evT] at N
  refine ⟨A, ρ, S, N.bind.mono fun x e N1 => fun A1 H1 S1 E1 => ?_⟩
  obtain ⟨k, ρ1⟩ := x
  cases k with
  | false => exact ⟨A1, ρ1, S1, (Out.move E1.fr N1).mono fun y e2 N2 => fun A2 H2 S2 E2 => N2 A2 H2 S2 (E1.trans E2)⟩
  | true => exact N1.ok A1 H1 S1 E1
/-! ### displays -/
theorem a_nil : ∀ σ H Q, tAs G Z W (evA C .nil) σ H Q → tNil σ H Q := fun σ H Q ⟨A, ρ, S, N⟩ => by
  simp only [evA] at N
  exact N.ok [] A H S Ev.refl .nil
theorem a_cons {a r : Ex} : ∀ σ H Q, tAs G Z W (evA C (.cons a r)) σ H Q → tCons (tE G Z W (evE C a)) (tAs G Z W (evA C r)) σ H Q := fun σ H Q ⟨A, ρ, S, N⟩ => by
  simp only [evA] at N
  refine ⟨A, ρ, S, N.bind.mono fun x e N1 => fun v A1 H1 S1 E1 R1 F1 => ?_⟩
  obtain ⟨y, e2, N2⟩ := N1.ofO
  obtain ⟨y1, ρ1⟩ := y
  obtain ⟨A2, S2, E2, R2⟩ := R1.tk S1 E1 F1 S.hs.dom e2
  refine ⟨A2, ρ1, S2, (Out.move E2.fr N2).bind.mono fun z e3 N3 => fun vs A3 H3 S3 E3 R3 => ?_⟩
  exact N3.ok (v :: vs) A3 H3 S3 (E2.trans E3) (.cons (RepA.mono E3.fr R2) R3)
theorem line_eq : (sizeLine : Nat) = line := by rw [sizeLine_eq]; rfl
theorem e_tup {es : Ex} : ∀ σ H Q, tE G Z W (evE C (.tup es)) σ H Q → tTup (tAs G Z W (evA C es)) σ H Q := fun σ H Q ⟨A, ρ, S, N⟩ => by
  simp only [evE] at N
  refine ⟨A, ρ, S, N.bind.mono fun x e N1 => fun vs A1 H1 S1 E1 R1 => ?_⟩
  by_cases hl : x.1.length ≤ line
  · rw [if_pos hl] at N1
    refine ⟨by rw [R1.length, line_eq]; exact hl, fun p hp => ?_⟩
    have q : Res G.K A1 H1 (.ref p) A1 (upd H1 p (.tup vs)) (.d (.tup x.1)) := ⟨rfl, Ext.new hp, .tup (.inl upd_same) (fun z => S1.hs.dom p z hp) (RepAs.mono (Ext.fr (Ext.new hp)) R1)⟩
    obtain ⟨S2, E2, R2, F2⟩ := q.go S1
    exact N1.ok _ _ _ S2 (E1.trans E2) R2 trivial
  · rw [if_neg hl] at N1; exact N1.elim
theorem e_lst {es : Ex} : ∀ σ H Q, tE G Z W (evE C (.lst es)) σ H Q → tLst (tAs G Z W (evA C es)) σ H Q := fun σ H Q ⟨A, ρ, S, N⟩ => by
  simp only [evE] at N
  refine ⟨A, ρ, S, N.bind.mono fun x e N1 => fun vs A1 H1 S1 E1 R1 => ?_⟩
  by_cases hl : x.1.length ≤ line
  · rw [if_pos hl] at N1
    refine ⟨by rw [R1.length, line_eq]; exact hl, fun p hp => ?_⟩
    have q : Res G.K A1 H1 (.ref p) (fun b => A1 b ∨ b = p) (upd H1 p (.lst vs)) (.nw x.1) := ⟨p, vs, rfl, hp, rfl, Ext.new hp, upd_same, R1⟩
    obtain ⟨S2, E2, R2, F2⟩ := q.go S1
    exact N1.ok _ _ _ S2 (E1.trans E2) R2 (fresh_back E1 F2)
  · rw [if_neg hl] at N1; exact N1.elim
end
end MP
/-! ME0: data as the library's; repr's size. Own work. -/
namespace MP
open PySem
open PySem.Spec
open PyProof.Rows
open L2
theorem piled_list : ∀ ts : List Str, (listText ts).length ≤ piled ts + 2
  | [] => by decide
  | t :: r => by
    have h := textFrom_length_pos r 1 (("[" : Str) ++ (if (0 : Nat) > 0 then ", " else "" : String) ++ t) (Nat.succ_pos 0)
    have e1 : ((("[" : Str) ++ (if (0 : Nat) > 0 then ", " else "" : String) ++ t)).length = 1 + t.length := by
      simp only [strLen_append]; rfl
    have e2 : (listText (t :: r)).length = (textFrom 1 (("[" : Str) ++ (if (0 : Nat) > 0 then ", " else "" : String) ++ t) r).length + 1 := by
      show (textFrom 1 (("[" : Str) ++ (if (0 : Nat) > 0 then ", " else "" : String) ++ t) r ++ "]").length = _
      simp only [strLen_append]; rfl
    rw [e2, h, e1, piled_cons]; omega
theorem piled_tup (ts : List Str) : (tupleText ts).length ≤ piled ts + 3 := by
  unfold tupleText
  have e1 : ((("(" : String) : Str)).length = 1 := rfl
  have e3 : (((if ts.length == 1 then ",)" else ")" : String) : Str)).length ≤ 2 := by split <;> decide
  cases ts with
  | nil => decide
  | cons t r =>
    have h := join_length_add (t :: r) (by simp)
    simp only [strLen_append] at *
    omega
mutual
theorem shown_sz : ∀ d : D, d.plain = true → d.shw = true → (toPy d).shown.length ≤ d.sz
  | .non, _, _ => by decide
  | .bl b, _, _ => by cases b <;> decide
  | .int i, _, h => by
    simp only [toPy, PyData.shown, D.sz]
    have q := int_text_length_le (a := i) (k := i.natAbs.log2 + 1) (Nat.succ_pos _) (Nat.lt_succ_self _)
    have e : (Str.ofString (toString i)).length = (toString i).length := by
      simp [Str.length, Str.ofString, cpsOfBytes_string, String.length_toList]
    show (Str.ofString (toString i)).length ≤ _
    rw [e]
    omega
  | .str s, h, _ => by
    simp only [toPy, PyData.shown, D.sz]
    simp only [D.plain, List.all_eq_true, decide_eq_true_eq] at h
    have q := StrLaws.reprText_len ⟨s.toArray⟩ (fun c hc => Nat.lt_trans (h c (by simpa using hc)) (by decide))
    have e : (⟨s.toArray⟩ : Str).length = s.length := by simp [Str.length]
    rw [e] at q
    exact q
  | .lst xs, h, k => by
    simp only [D.plain] at h
    simp only [D.shw] at k
    have q := shown_szs xs h k
    have z := piled_list (PyData.shownAll (toPys xs))
    simp only [toPy, PyData.shown, D.sz]
    omega
  | .tup xs, h, k => by
    simp only [D.plain] at h
    simp only [D.shw] at k
    have q := shown_szs xs h k
    have z := piled_tup (PyData.shownAll (toPys xs))
    simp only [toPy, PyData.shown, D.sz]
    omega
  | .rp x, h, _ => by simp [D.plain] at h
  | .fn k c, h, _ => by simp [D.plain] at h
  | .fz c, h, _ => by simp [D.plain] at h
theorem shown_szs : ∀ ds : List D, D.plains ds = true → D.shws ds = true → piled (PyData.shownAll (toPys ds)) ≤ D.szs ds
  | [], _, _ => by simp [toPys, PyData.shownAll, piled, D.szs]
  | d :: ds, h, k => by
    simp only [D.plains, Bool.and_eq_true] at h
    simp only [D.shws, Bool.and_eq_true] at k
    have q := shown_sz d h.1 k.1
    have q2 := shown_szs ds h.2 k.2
    simp only [toPys, PyData.shownAll, piled_cons, D.szs]
    omega
end
mutual
theorem py_lay : ∀ d : D, d.plain = true → (toPy d).canLay0 = true
  | .non, _ => rfl
  | .bl b, _ => rfl
  | .int i, _ => rfl
  | .str s, h => by
    simp only [D.plain, List.all_eq_true, decide_eq_true_eq] at h
    simp only [toPy, PyData.canLay0, PyData.strOk]
    simp only [Array.all_eq_true', decide_eq_true_eq]
    intro x hx
    exact h x (by simpa using hx)
  | .lst xs, h => by
    simp only [D.plain] at h
    simp only [toPy, PyData.canLay0]
    exact py_lays xs h
  | .tup xs, h => by
    simp only [D.plain] at h
    simp only [toPy, PyData.canLay0]
    exact py_lays xs h
  | .rp x, h => by simp [D.plain] at h
  | .fn k c, h => by simp [D.plain] at h
  | .fz c, h => by simp [D.plain] at h
theorem py_lays : ∀ ds : List D, D.plains ds = true → PyData.canLayAll0 (toPys ds) = true
  | [], _ => rfl
  | d :: ds, h => by
    simp only [D.plains, Bool.and_eq_true] at h
    simp only [toPys, PyData.canLayAll0, Bool.and_eq_true]
    exact ⟨py_lay d h.1, py_lays ds h.2⟩
end
mutual
theorem py_dep : ∀ d : D, (toPy d).depth = d.dep
  | .non => rfl
  | .bl b => rfl
  | .int i => rfl
  | .str s => rfl
  | .lst xs => by simp only [toPy, PyData.depth, D.dep, py_deps xs]
  | .tup xs => by simp only [toPy, PyData.depth, D.dep, py_deps xs]
  | .rp x => rfl
  | .fn k c => rfl
  | .fz c => rfl
theorem py_deps : ∀ ds : List D, PyData.depthAll (toPys ds) = D.deps ds
  | [] => rfl
  | d :: ds => by simp only [toPys, PyData.depthAll, D.deps, py_dep d, py_deps ds]
end
mutual
theorem py_show : ∀ d : D, d.shw = true → (toPy d).showable = true
  | .non, _ => rfl
  | .bl b, _ => rfl
  | .int i, h => by simpa only [toPy, PyData.showable, D.shw] using h
  | .str s, h => rfl
  | .lst xs, h => by
    simp only [D.shw] at h
    simp only [toPy, PyData.showable]
    exact py_shows xs h
  | .tup xs, h => by
    simp only [D.shw] at h
    simp only [toPy, PyData.showable]
    exact py_shows xs h
  | .rp x, h => rfl
  | .fn k c, h => rfl
  | .fz c, h => rfl
theorem py_shows : ∀ ds : List D, D.shws ds = true → PyData.showableAll (toPys ds) = true
  | [], _ => rfl
  | d :: ds, h => by
    simp only [D.shws, Bool.and_eq_true] at h
    simp only [toPys, PyData.showableAll, Bool.and_eq_true]
    exact ⟨py_show d h.1, py_shows ds h.2⟩
end
theorem str_beq (x y : List Nat) : ((⟨x.toArray⟩ : Str) == ⟨y.toArray⟩) = (x == y) := by
  rw [Bool.eq_iff_iff]
  simp
mutual
theorem py_eqv : ∀ a b : D, a.plain = true → b.plain = true → PyData.eqv (toPy a) (toPy b) = D.eqv a b
  | .non, b, _, h => by cases b <;> first | rfl | simp [D.plain] at h
  | .bl x, b, _, h => by cases b <;> first | rfl | simp [D.plain] at h
  | .int x, b, _, h => by cases b <;> first | rfl | simp [D.plain] at h
  | .str x, b, _, h => by
    cases b <;> first | exact str_beq _ _ | rfl | simp [D.plain] at h
  | .lst x, b, h1, h => by
    cases b with
    | lst y =>
      simp only [D.plain] at h1 h
      simp only [toPy, PyData.eqv, D.eqv]
      exact py_eqvs x y h1 h
    | rp _ => simp [D.plain] at h
    | fn _ _ => simp [D.plain] at h
    | fz _ => simp [D.plain] at h
    | _ => rfl
  | .tup x, b, h1, h => by
    cases b with
    | tup y =>
      simp only [D.plain] at h1 h
      simp only [toPy, PyData.eqv, D.eqv]
      exact py_eqvs x y h1 h
    | rp _ => simp [D.plain] at h
    | fn _ _ => simp [D.plain] at h
    | fz _ => simp [D.plain] at h
    | _ => rfl
  | .rp x, b, h, _ => by simp [D.plain] at h
  | .fn k c, b, h, _ => by simp [D.plain] at h
  | .fz c, b, h, _ => by simp [D.plain] at h
theorem py_eqvs : ∀ a b : List D, D.plains a = true → D.plains b = true → PyData.eqvAll (toPys a) (toPys b) = D.eqvs a b
  | [], [], _, _ => rfl
  | [], _ :: _, _, _ => rfl
  | _ :: _, [], _, _ => rfl
  | x :: xs, y :: ys, h, k => by
    simp only [D.plains, Bool.and_eq_true] at h k
    simp only [toPys, PyData.eqvAll, D.eqvs, py_eqv x y h.1 k.1, py_eqvs xs ys h.2 k.2]
end
section
variable {K : PySem.W.Frag} {A : Ow} {H : Hp}
mutual
theorem RepA.dp : ∀ {v : V} {d : D}, RepA K A H v d → d.plain = true → Dp K H v (toPy d)
  | _, _, .non, _ => .non
  | _, _, .bl b, _ => .bl b
  | _, _, .int i, _ => .int i
  | _, _, .str s, _ => .str _
  | _, _, .tup r n rs, h => by
    simp only [D.plain] at h
    simp only [toPy]
    exact .tup (.inl r) (RepAs.dp rs h)
  | _, _, .tupK k rs, h => by
    simp only [D.plain] at h
    simp only [toPy]
    exact .tup k.sq (RepAs.dp rs h)
  | _, _, .lst r n rs, h => by
    simp only [D.plain] at h
    simp only [toPy]
    exact .lst (.inl (.inl r)) (RepAs.dp rs h)
  | _, _, .fz r rs, h => by simp [D.plain] at h
  | _, _, .rp d, h => by simp [D.plain] at h
theorem RepAs.dp : ∀ {vs : List V} {ds : List D}, RepAs K A H vs ds → D.plains ds = true → DpAll K H vs (toPys ds)
  | _, _, .nil, _ => .nil
  | _, _, .cons r rs, h => by
    simp only [D.plains, Bool.and_eq_true] at h
    exact .cons (RepA.dp r h.1) (RepAs.dp rs h.2)
end
theorem RdD.dp {v : V} {d : D} (r : RdD K A H v d) (h : d.plain = true) : Dp K H v (toPy d) := by
  cases d with
  | lst ds =>
    obtain ⟨a, xs, rfl, e, rs⟩ := (show RdL K A H v ds from r)
    simp only [D.plain] at h
    simp only [toPy]
    exact .lst (.inl (.inl e)) (RepAs.dp rs h)
  | _ => exact RepA.dp r h
theorem okEq_shaped {d : D} (h : okEq d = true) : SeqAt.shaped (toPy d) = true := by
  simp only [okEq, Bool.and_eq_true, decide_eq_true_eq] at h
  simp only [SeqAt.shaped, Bool.and_eq_true, decide_eq_true_eq, py_dep]
  exact ⟨py_lay d h.1, h.2⟩
end
end MP
/-! ME: the operations' rules. Own work. -/
namespace MP
open PySem
open PySem.Spec
open PyProof.Rows
open L2
section
variable {K : PySem.W.Frag}
theorem res_d {A : Ow} {H : Hp} {v : V} {x : D} (r : RepA K A H v x) : Res K A H v A H (.d x) := ⟨rfl, Ext.refl, r⟩
theorem res_nw {A : Ow} {H : Hp} {p : Addr} {vs : List V} {ds : List D} (hp : H p = none) (r : RepAs K A H vs ds) : Res K A H (.ref p) (fun b => A b ∨ b = p) (upd H p (.lst vs)) (.nw ds) := ⟨p, vs, rfl, hp, rfl, Ext.new hp, upd_same, r⟩
theorem res_tup {A : Ow} {H : Hp} {p : Addr} {vs : List V} {ds : List D} (hA : ∀ a, A a → H a ≠ none) (hp : H p = none) (r : RepAs K A H vs ds) : Res K A H (.ref p) A (upd H p (.tup vs)) (.d (.tup ds)) :=
  ⟨rfl, Ext.new hp, .tup (.inl upd_same) (fun z => hA p z hp) (RepAs.mono (Ext.fr (Ext.new hp)) r)⟩
theorem rdInt {A : Ow} {H : Hp} {v : V} {i : Int} (r : RdD K A H v (.int i)) : v = .int i := by cases (show RepA K A H v (.int i) from r); rfl
theorem rdBl {A : Ow} {H : Hp} {v : V} {i : Bool} (r : RdD K A H v (.bl i)) : v = .bl i := by cases (show RepA K A H v (.bl i) from r); rfl
theorem rdStr {A : Ow} {H : Hp} {v : V} {i : List Nat} (r : RdD K A H v (.str i)) : v = .str ⟨i.toArray⟩ := by cases (show RepA K A H v (.str i) from r); rfl
theorem rdNon {A : Ow} {H : Hp} {v : V} (r : RdD K A H v .non) : v = .non := by cases (show RepA K A H v .non from r); rfl
theorem rdTup {A : Ow} {H : Hp} {v : V} {ds : List D} (r : RdD K A H v (.tup ds)) : RdT K A H v ds := RepA.rdT r
theorem rdLst {A : Ow} {H : Hp} {v : V} {ds : List D} (r : RdD K A H v (.lst ds)) : ∃ a xs, v = .ref a ∧ H a = some (.lst xs) ∧ RepAs K A H xs ds := r
theorem rdFz {A : Ow} {H : Hp} {v : V} {ds : List D} (r : RdD K A H v (.fz ds)) : ∃ a xs, v = .ref a ∧ SqL K H a xs ∧ True ∧ RepAs K A H xs ds := by
  cases (show RepA K A H v (.fz ds) from r) with
  | fz h rs => exact ⟨_, _, rfl, h.elim (fun h => .inl h.1) .inr, trivial, rs⟩
/-! ### two ints -/
def rAddI : R2 := rI0 fun i j => .int (i + j)
def rAny (r r' : R2) : R2 := fun x y H Q => r x y H Q ∨ r' x y H Q
def rAddS : R2 := fun x y H Q => ∃ i j, x = .str i ∧ y = .str j ∧ i.length + j.length ≤ sizeLine ∧ Q (.str (i ++ j)) H
theorem str_app (x y : List Nat) : ((⟨x.toArray⟩ : Str) ++ ⟨y.toArray⟩) = ⟨(x ++ y).toArray⟩ := by
  show Str.mk _ = _
  simp
theorem str_len (x : List Nat) : (⟨x.toArray⟩ : Str).length = x.length := by simp [Str.length]
theorem ru_add : Rule2 K (sem2 .add) (rAny rAddI (rAny rCat (rAny (rCatA K) rAddS))) := by
  intro A H x y u v o Q hA hx hy e k
  cases u with
  | int i =>
    cases v with
    | int j =>
      simp [sem2] at e
      subst e
      exact .inl ⟨i, j, rdInt hx, rdInt hy, k _ _ _ (res_d (.int _))⟩
    | _ => simp [sem2] at e
  | lst xs =>
    cases v with
    | lst ys =>
      simp [sem2] at e
      obtain ⟨hl, rfl⟩ := e
      obtain ⟨a, vs, rfl, h1, r1⟩ := rdLst hx
      obtain ⟨b, ws, rfl, h2, r2⟩ := rdLst hy
      exact .inr (.inl ⟨a, b, vs, ws, rfl, rfl, h1, h2, by rw [r1.length, r2.length, line_eq]; exact hl, fun p hp => k _ _ _ (res_nw hp (r1.append r2))⟩)
    | _ => simp [sem2] at e
  | tup xs =>
    cases v with
    | tup ys =>
      simp [sem2] at e
      obtain ⟨hl, rfl⟩ := e
      obtain ⟨a, vs, ea, h1, r1⟩ := rdTup hx
      obtain ⟨b, ws, eb, h2, r2⟩ := rdTup hy
      have l1 := r1.length
      have l2 := r2.length
      refine .inr (.inr (.inl ⟨a, b, vs, ws, ea, eb, h1, h2, by rw [l1, l2, line_eq]; exact hl, fun z => ?_, fun z1 z2 => ?_, fun _ _ p hp => k _ _ _ (res_tup hA hp (r1.append r2))⟩))
      · subst z
        have e0 : xs = [] := List.eq_nil_of_length_eq_zero l1.symm
        subst e0
        refine k _ _ _ (res_d (x := .tup ([] ++ ys)) ?_)
        rw [← eb]
        exact hy
      · subst z2
        have e0 : ys = [] := List.eq_nil_of_length_eq_zero l2.symm
        subst e0
        refine k _ _ _ (res_d (x := .tup (xs ++ [])) ?_)
        rw [← ea, List.append_nil]
        exact hx
    | _ => simp [sem2] at e
  | str xs =>
    cases v with
    | str ys =>
      simp [sem2] at e
      obtain ⟨hl, rfl⟩ := e
      refine .inr (.inr (.inr ⟨_, _, rdStr hx, rdStr hy, by rw [str_len, str_len, line_eq]; exact hl, ?_⟩))
      rw [str_app]
      exact k _ _ _ (res_d (.str _))
    | _ => simp [sem2] at e
  | _ => simp [sem2] at e
theorem two_int {o : O2} {A : Ow} {H : Hp} {x y : V} {u v : D} {r : Op} (hx : RdD K A H x u) (hy : RdD K A H y v) (e : sem2 o u v = some r)
    (ho : o = .sub ∨ o = .mul ∨ o = .fdiv ∨ o = .mod ∨ o = .pow ∨ o = .dm ∨ o = .lt ∨ o = .le ∨ o = .gt ∨ o = .ge ∨ o = .mx ∨ o = .mn) : ∃ i j, u = .int i ∧ v = .int j ∧ x = .int i ∧ y = .int j := by
  cases u with
  | int i =>
    cases v with
    | int j => exact ⟨i, j, rfl, rfl, rdInt hx, rdInt hy⟩
    | _ => rcases ho with h | h | h | h | h | h | h | h | h | h | h | h <;> subst h <;> simp [sem2] at e
  | _ => rcases ho with h | h | h | h | h | h | h | h | h | h | h | h <;> subst h <;> simp [sem2] at e
theorem ru_sub : Rule2 K (sem2 .sub) (rI0 fun i j => .int (i - j)) := by
  intro A H x y u v o Q hA hx hy e k
  obtain ⟨i, j, rfl, rfl, rfl, rfl⟩ := two_int hx hy e (by simp)
  simp [sem2] at e
  subst e
  exact ⟨i, j, rfl, rfl, k _ _ _ (res_d (.int _))⟩
theorem mulOk_c {i j : Int} (h : mulOk i j = true) : CMul i j := by
  simp only [mulOk, Bool.or_eq_true, Bool.and_eq_true, decide_eq_true_eq] at h
  exact h
theorem ru_mul : Rule2 K (sem2 .mul) (rI CMul fun i j => .int (i * j)) := by
  intro A H x y u v o Q hA hx hy e k
  obtain ⟨i, j, rfl, rfl, rfl, rfl⟩ := two_int hx hy e (by simp)
  simp [sem2] at e
  obtain ⟨hl, rfl⟩ := e
  exact ⟨i, j, rfl, rfl, mulOk_c hl, k _ _ _ (res_d (.int _))⟩
theorem ru_fdiv : Rule2 K (sem2 .fdiv) (rI CDiv fun i j => .int (i / j)) := by
  intro A H x y u v o Q hA hx hy e k
  obtain ⟨i, j, rfl, rfl, rfl, rfl⟩ := two_int hx hy e (by simp)
  simp [sem2] at e
  obtain ⟨hl, rfl⟩ := e
  exact ⟨i, j, rfl, rfl, hl, k _ _ _ (res_d (.int _))⟩
theorem ru_mod : Rule2 K (sem2 .mod) (rI (fun _ j => 0 < j) fun i j => .int (i % j)) := by
  intro A H x y u v o Q hA hx hy e k
  obtain ⟨i, j, rfl, rfl, rfl, rfl⟩ := two_int hx hy e (by simp)
  simp [sem2] at e
  obtain ⟨hl, rfl⟩ := e
  exact ⟨i, j, rfl, rfl, hl, k _ _ _ (res_d (.int _))⟩
theorem ru_pow : Rule2 K (sem2 .pow) (rI CPow fun i j => .int (i ^ j.toNat)) := by
  intro A H x y u v o Q hA hx hy e k
  obtain ⟨i, j, rfl, rfl, rfl, rfl⟩ := two_int hx hy e (by simp)
  simp only [sem2] at e
  split at e
  · rename_i hl
    cases e
    exact ⟨i, j, rfl, rfl, hl, k _ _ _ (res_d (.int _))⟩
  · cases e
theorem ru_dm : Rule2 K (sem2 .dm) (fun x y H Q => ∃ i j, x = .int i ∧ y = .int j ∧ CDiv i j ∧ ∀ p, H p = none → Q (.ref p) (upd H p (.tup [.int (i / j), .int (i % j)]))) := by
  intro A H x y u v o Q hA hx hy e k
  obtain ⟨i, j, rfl, rfl, rfl, rfl⟩ := two_int hx hy e (by simp)
  simp [sem2] at e
  obtain ⟨hl, rfl⟩ := e
  exact ⟨i, j, rfl, rfl, hl, fun p hp => k _ _ _ (res_tup hA hp (.cons (.int _) (.cons (.int _) .nil)))⟩
theorem ru_lt : Rule2 K (sem2 .lt) (rI0 fun i j => .bl (decide (i < j))) := by
  intro A H x y u v o Q hA hx hy e k
  obtain ⟨i, j, rfl, rfl, rfl, rfl⟩ := two_int hx hy e (by simp)
  simp only [sem2] at e
  cases e
  exact ⟨i, j, rfl, rfl, k _ _ _ (res_d (.bl _))⟩
theorem ru_le : Rule2 K (sem2 .le) (rI0 fun i j => .bl (decide (i ≤ j))) := by
  intro A H x y u v o Q hA hx hy e k
  obtain ⟨i, j, rfl, rfl, rfl, rfl⟩ := two_int hx hy e (by simp)
  simp only [sem2] at e
  cases e
  exact ⟨i, j, rfl, rfl, k _ _ _ (res_d (.bl _))⟩
theorem ru_gt : Rule2 K (sem2 .gt) (rI0 fun i j => .bl (decide (j < i))) := by
  intro A H x y u v o Q hA hx hy e k
  obtain ⟨i, j, rfl, rfl, rfl, rfl⟩ := two_int hx hy e (by simp)
  simp only [sem2] at e
  cases e
  exact ⟨i, j, rfl, rfl, k _ _ _ (res_d (.bl _))⟩
theorem ru_ge : Rule2 K (sem2 .ge) (rI0 fun i j => .bl (decide (j ≤ i))) := by
  intro A H x y u v o Q hA hx hy e k
  obtain ⟨i, j, rfl, rfl, rfl, rfl⟩ := two_int hx hy e (by simp)
  simp only [sem2] at e
  cases e
  exact ⟨i, j, rfl, rfl, k _ _ _ (res_d (.bl _))⟩
theorem ru_mx : Rule2 K (sem2 .mx) (fun x y H Q => ∃ i j, [x, y] = [V.int i, V.int j] ∧ Q (.int (if j > i then j else i)) H) := by
  intro A H x y u v o Q hA hx hy e k
  obtain ⟨i, j, rfl, rfl, rfl, rfl⟩ := two_int hx hy e (by simp)
  simp only [sem2] at e
  cases e
  exact ⟨i, j, rfl, k _ _ _ (res_d (.int _))⟩
theorem ru_mn : Rule2 K (sem2 .mn) (fun x y H Q => ∃ i j, [x, y] = [V.int i, V.int j] ∧ Q (.int (if j < i then j else i)) H) := by
  intro A H x y u v o Q hA hx hy e k
  obtain ⟨i, j, rfl, rfl, rfl, rfl⟩ := two_int hx hy e (by simp)
  simp only [sem2] at e
  cases e
  exact ⟨i, j, rfl, k _ _ _ (res_d (.int _))⟩
/-! ### equality -/
def rEqX (K : PySem.W.Frag) : R2 := rAny (rEqD K) (fun x y H Q => ∃ z, x = .str z ∧ y = .str z ∧ Q (.bl true) H)
def rNeX (K : PySem.W.Frag) : R2 := rAny (rNeD K) (fun x y H Q => ∃ z, x = .str z ∧ y = .str z ∧ Q (.bl false) H)
theorem rdRp {A : Ow} {H : Hp} {v : V} {x : D} (r : RdD K A H v (.rp x)) : v = .str (toPy x).shown := by cases (show RepA K A H v (.rp x) from r); rfl
theorem eq_gen {A : Ow} {H : Hp} {x y : V} {u v : D} {b : Bool} {o : Op} {Q : VK} (hx : RdD K A H x u) (hy : RdD K A H y v) (h : (if (okEq u && okEq v) = true then some (Op.d (.bl b)) else none) = some o) :
    (okEq u = true ∧ okEq v = true) ∧ o = .d (.bl b) := by
  split at h
  · rename_i q
    simp only [Bool.and_eq_true] at q
    cases h
    exact ⟨q, rfl⟩
  · cases h
theorem okEq_plain {d : D} (h : okEq d = true) : d.plain = true := by
  simp only [okEq, Bool.and_eq_true] at h
  exact h.1
theorem ru_eq : Rule2 K (sem2 .eq) (rEqX K) := by
  intro A H x y u v o Q hA hx hy e k
  have gen : ∀ b, (if (okEq u && okEq v) = true then some (Op.d (.bl b)) else none) = some o → b = D.eqv u v → rEqX K x y H Q := fun b h hb => by
    obtain ⟨⟨h1, h2⟩, rfl⟩ := eq_gen (Q := Q) hx hy h
    refine .inl ⟨_, _, hx.dp (okEq_plain h1), hy.dp (okEq_plain h2), okEq_shaped h1, okEq_shaped h2, ?_⟩
    rw [py_eqv _ _ (okEq_plain h1) (okEq_plain h2), ← hb]
    exact k _ _ _ (res_d (.bl _))
  cases u with
  | rp a =>
    cases v with
    | rp b =>
      simp [sem2] at e
      obtain ⟨h, rfl⟩ := e
      have z := D.beq_eq _ _ h
      subst z
      exact .inr ⟨_, rdRp hx, rdRp hy, k _ _ _ (res_d (.bl _))⟩
    | _ => exact gen _ e rfl
  | _ => exact gen _ (by simpa only [sem2] using e) rfl
theorem ru_ne : Rule2 K (sem2 .ne) (rNeX K) := by
  intro A H x y u v o Q hA hx hy e k
  have gen : ∀ b, (if (okEq u && okEq v) = true then some (Op.d (.bl b)) else none) = some o → b = (!D.eqv u v) → rNeX K x y H Q := fun b h hb => by
    obtain ⟨⟨h1, h2⟩, rfl⟩ := eq_gen (Q := Q) hx hy h
    refine .inl ⟨_, _, hx.dp (okEq_plain h1), hy.dp (okEq_plain h2), okEq_shaped h1, okEq_shaped h2, ?_⟩
    rw [py_eqv _ _ (okEq_plain h1) (okEq_plain h2), ← hb]
    exact k _ _ _ (res_d (.bl _))
  cases u with
  | rp a =>
    cases v with
    | rp b =>
      simp [sem2] at e
      obtain ⟨h, rfl⟩ := e
      have z := D.beq_eq _ _ h
      subst z
      exact .inr ⟨_, rdRp hx, rdRp hy, k _ _ _ (res_d (.bl _))⟩
    | _ => exact gen _ e rfl
  | _ => exact gen _ (by simpa only [sem2] using e) rfl
theorem op_eqX {X : Cx} (hu : X.A.units + 64 < cLine) : OpR X (compareOp .Eq) (rEqX X.K) := (op_eqD hu).or fun pins s σ H x y v u Q I rx ry ⟨z, e1, e2, q⟩ => by
  subst e1
  subst e2
  exact op_eq pins s σ H _ _ v u Q I rx ry ⟨rfl, by simpa using q⟩
theorem op_neX {X : Cx} (hu : X.A.units + 64 < cLine) : OpR X (compareOp .NotEq) (rNeX X.K) := (op_neD hu).or fun pins s σ H x y v u Q I rx ry ⟨z, e1, e2, q⟩ => by
  subst e1
  subst e2
  exact op_ne pins s σ H _ _ v u Q I rx ry ⟨rfl, by simpa using q⟩
/-! ### is of truths; in -/
theorem isT1_ok {A : Ow} {H : Hp} {x y : V} {u v : D} {b : Bool} (hx : RdD K A H x u) (hy : RdD K A H y v) (e : isT1 u v = some b) : ∃ a c, x = .bl a ∧ y = .bl c ∧ b = decide (a = c) := by
  cases u with
  | bl a =>
    cases v with
    | bl c =>
      simp only [isT1] at e
      cases e
      exact ⟨a, c, rdBl hx, rdBl hy, rfl⟩
    | _ => simp [isT1] at e
  | _ => simp [isT1] at e
theorem ru_isB : Rule2 K (sem2 .isB) rIsB := by
  intro A H x y u v o Q hA hx hy e k
  have e' : (isT1 u v).bind (fun b => some (Op.d (.bl b))) = some o := by simpa only [sem2] using e
  cases q : isT1 u v with
  | none => rw [q] at e'; cases e'
  | some b =>
    rw [q] at e'
    cases e'
    obtain ⟨a, c, rfl, rfl, rfl⟩ := isT1_ok hx hy q
    exact ⟨a, c, rfl, rfl, k _ _ _ (res_d (.bl _))⟩
theorem ru_notB : Rule2 K (sem2 .notB) rNotB := by
  intro A H x y u v o Q hA hx hy e k
  have e' : (isT1 u v).bind (fun b => some (Op.d (.bl (!b)))) = some o := by simpa only [sem2] using e
  cases q : isT1 u v with
  | none => rw [q] at e'; cases e'
  | some b =>
    rw [q] at e'
    cases e'
    obtain ⟨a, c, rfl, rfl, rfl⟩ := isT1_ok hx hy q
    exact ⟨a, c, rfl, rfl, k _ _ _ (res_d (.bl _))⟩
theorem toPys_map : ∀ ds : List D, toPys ds = ds.map toPy
  | [] => rfl
  | d :: ds => by rw [toPys, toPys_map ds]; rfl
theorem plains_mem : ∀ {ds : List D}, D.plains ds = true → ∀ d ∈ ds, d.plain = true
  | [], _, d, h => by cases h
  | x :: xs, h, d, hd => by
    simp only [D.plains, Bool.and_eq_true] at h
    rcases List.mem_cons.mp hd with rfl | hd
    · exact h.1
    · exact plains_mem h.2 d hd
theorem any_eqv {ys : List D} {x : D} (hy : D.plains ys = true) (hx : x.plain = true) : (toPys ys).any (fun z => PyData.eqv z (toPy x)) = ys.any fun y => D.eqv y x := by
  rw [toPys_map, List.any_map]
  induction ys with
  | nil => rfl
  | cons y r ih =>
    simp only [D.plains, Bool.and_eq_true] at hy
    simp only [List.any_cons, Function.comp, py_eqv _ _ hy.1 hx]
    rw [← ih hy.2]
theorem ru_in : Rule2 K (sem2 .inn) (rInD K) := by
  intro A H x y u v o Q hA hx hy e k
  cases v with
  | lst ys =>
    have e' : (if (okEq u && okEq (.lst ys)) = true then some (Op.d (.bl (ys.any fun y => D.eqv y u))) else none) = some o := by simpa only [sem2] using e
    obtain ⟨⟨h1, h2⟩, rfl⟩ := eq_gen (Q := Q) hx hy e'
    refine ⟨_, _, hx.dp (okEq_plain h1), hy.dp (okEq_plain h2), okEq_shaped h1, okEq_shaped h2, ?_⟩
    rw [any_eqv (by simpa only [D.plain] using okEq_plain h2) (okEq_plain h1)]
    exact k _ _ _ (res_d (.bl _))
  | _ => simp [sem2] at e
theorem ru_nin : Rule2 K (sem2 .nin) (rNotInD K) := by
  intro A H x y u v o Q hA hx hy e k
  cases v with
  | lst ys =>
    have e' : (if (okEq u && okEq (.lst ys)) = true then some (Op.d (.bl (!ys.any fun y => D.eqv y u))) else none) = some o := by simpa only [sem2] using e
    obtain ⟨⟨h1, h2⟩, rfl⟩ := eq_gen (Q := Q) hx hy e'
    refine ⟨_, _, hx.dp (okEq_plain h1), hy.dp (okEq_plain h2), okEq_shaped h1, okEq_shaped h2, ?_⟩
    rw [any_eqv (by simpa only [D.plain] using okEq_plain h2) (okEq_plain h1)]
    exact k _ _ _ (res_d (.bl _))
  | _ => simp [sem2] at e
/-! ### x[i] -/
theorem atI_some {α : Type} {xs : List α} {i : Int} {v : α} (h : atI xs i = some v) : ∃ j, ixN xs.length i = some j ∧ xs[j]? = some v := by
  unfold MP.atI at h
  cases e : ixN xs.length i with
  | none => rw [e] at h; cases h
  | some j => rw [e] at h; exact ⟨j, rfl, h⟩
theorem atI_l2 {α β : Type} {xs : List α} {ys : List β} {i : Int} {j : Nat} {v : β} (hl : xs.length = ys.length) (h : MP.ixN xs.length i = some j) (e : ys[j]? = some v) : L2.atI ys i = some v := by
  unfold L2.atI
  have q : L2.ixN ys.length i = some j := by rw [← hl]; exact h
  rw [q]
  exact e
theorem ru_ix : Rule2 K (sem2 .ix) (rAny (rIxL K) (rIxT K)) := by
  intro A H x y u v o Q hA hx hy e k
  have fin : ∀ (xs : List D) (i : Int), ((MP.atI xs i).bind fun v => some (Op.d v)) = some o → ∃ j d, MP.ixN xs.length i = some j ∧ xs[j]? = some d ∧ o = .d d := fun xs i h => by
    cases q : MP.atI xs i with
    | none => rw [q] at h; cases h
    | some d =>
      rw [q] at h
      cases h
      obtain ⟨j, h1, h2⟩ := atI_some q
      exact ⟨j, d, h1, h2, rfl⟩
  cases v with
  | int i =>
    have hy' := rdInt hy
    subst hy'
    cases u with
    | lst xs =>
      obtain ⟨j, d, h1, h2, rfl⟩ := fin xs i (by simpa only [sem2] using e)
      obtain ⟨a, vs, rfl, h3, r1⟩ := rdLst hx
      obtain ⟨w, h4, r2⟩ := r1.get h2
      exact .inl ⟨a, vs, i, w, rfl, rfl, .inl (.inl h3), atI_l2 r1.length.symm h1 h4, k _ _ _ (res_d r2)⟩
    | fz xs =>
      obtain ⟨j, d, h1, h2, rfl⟩ := fin xs i (by simpa only [sem2] using e)
      obtain ⟨a, vs, rfl, h3, _, r1⟩ := rdFz hx
      obtain ⟨w, h4, r2⟩ := r1.get h2
      exact .inl ⟨a, vs, i, w, rfl, rfl, h3, atI_l2 r1.length.symm h1 h4, k _ _ _ (res_d r2)⟩
    | tup xs =>
      obtain ⟨j, d, h1, h2, rfl⟩ := fin xs i (by simpa only [sem2] using e)
      obtain ⟨a, vs, rfl, h3, r1⟩ := rdTup hx
      obtain ⟨w, h4, r2⟩ := r1.get h2
      exact .inr ⟨a, vs, i, w, rfl, rfl, h3, atI_l2 r1.length.symm h1 h4, k _ _ _ (res_d r2)⟩
    | _ => simp [sem2] at e
  | _ => simp [sem2] at e
/-! ### slices -/
def RuleS (K : PySem.W.Frag) (r : V → Option Int → Option Int → Hp → VK → Prop) : Prop :=
  ∀ (A : Ow) (H : Hp) (x : V) (u : D) (lo hi : Option Int) (o : Op) (Q : VK), (∀ a, A a → H a ≠ none) → RdD K A H x u → semSl u lo hi = some o → (∀ v A' H', Res K A H v A' H' o → Q v H') → r x lo hi H Q
theorem sIx_eq (n d : Nat) (o : Option Int) : HT.sIx n d o = MP.sIx n d o := by cases o <;> rfl
theorem rep_cut {A : Ow} {H : Hp} {vs : List V} {ds : List D} (r : RepAs K A H vs ds) (lo hi : Option Int) : RepAs K A H (cutV vs lo hi) (cut ds lo hi) := by
  unfold cutV cut
  rw [sIx_eq, sIx_eq, r.length]
  exact RepAs.take _ (RepAs.drop _ r)
theorem ru_sl : RuleS K (fun x lo hi H Q => rSlL K x lo hi H Q ∨ rSlA K x lo hi H Q) := by
  intro A H x u lo hi o Q hA hx e k
  cases u with
  | lst xs =>
    simp [semSl] at e
    subst e
    obtain ⟨a, vs, rfl, h1, r1⟩ := rdLst hx
    exact .inl ⟨a, vs, rfl, .inl (.inl h1), fun p hp => k _ _ _ (res_nw hp (rep_cut r1 lo hi))⟩
  | fz xs =>
    simp [semSl] at e
    subst e
    obtain ⟨a, vs, rfl, h1, _, r1⟩ := rdFz hx
    exact .inl ⟨a, vs, rfl, h1, fun p hp => k _ _ _ (res_nw hp (rep_cut r1 lo hi))⟩
  | tup xs =>
    simp [semSl] at e
    subst e
    obtain ⟨a, vs, rfl, h1, r1⟩ := rdTup hx
    refine .inr ⟨a, vs, rfl, h1, fun z => ?_, fun _ p hp => k _ _ _ (res_tup hA hp (rep_cut r1 lo hi))⟩
    have q : cut xs lo hi = xs := by
      unfold cut
      rw [← sIx_eq, ← sIx_eq, ← r1.length, z.1, z.2]
      simp [r1.length]
    rw [q] at k
    exact k _ _ _ (res_d hx)
  | _ => simp [semSl] at e
theorem e_sl {G : Gd} {Z : Act} {W : WX} {C : Ctx} {a lo hi : Ex} {r : V → Option Int → Option Int → Hp → VK → Prop} {tl th : TO} (hr : RuleS G.K r)
    (hl : ∀ σ H A ρ (P : Option Int → Hp → Prop), SR G.K Z A σ H ρ → Out G Z W σ A H (evP C lo ρ) (fun q => ∀ A' H', SR G.K Z A' σ H' q.2 → Ev σ ρ A H q.2 A' H' → P q.1 H') → tl σ H P)
    (hh : ∀ σ H A ρ (P : Option Int → Hp → Prop), SR G.K Z A σ H ρ → Out G Z W σ A H (evP C hi ρ) (fun q => ∀ A' H', SR G.K Z A' σ H' q.2 → Ev σ ρ A H q.2 A' H' → P q.1 H') → th σ H P) :
    ∀ σ H Q, tE G Z W (evE C (.sl a lo hi)) σ H Q → tSl r (tE G Z W (evE C a)) tl th σ H Q := fun σ H Q ⟨A, ρ, S, N⟩ => by
  simp only [evE] at N
  refine ⟨A, ρ, S, N.bind.mono fun x e N1 => fun v A1 H1 S1 E1 R1 F1 => ?_⟩
  refine hl σ H1 A1 x.2 _ S1 ((Out.move E1.fr N1.bind).mono fun l e2 N2 => fun A2 H2 S2 E2 => ?_)
  refine hh σ H2 A2 l.2 _ S2 ((Out.move (E1.trans E2).fr N2.bind).mono fun h e3 N3 => fun A3 H3 S3 E3 => ?_)
  obtain ⟨u, e4, N4⟩ := N3.ofO
  obtain ⟨w, e5, N5⟩ := N4.ofO
  refine hr A3 H3 v u l.1 h.1 w Q S3.hs.dom (((R1.step E2).step E3).rd S3 e4) e5 fun v' A' H' q => ?_
  obtain ⟨S4, E4, R4, F4⟩ := q.go S3
  exact N5.ok v' A' H' S4 (((E1.trans E2).trans E3).trans E4) R4 (fresh_back ((E1.trans E2).trans E3) F4)
theorem p_none {G : Gd} {Z : Act} {W : WX} {C : Ctx} : ∀ σ H A ρ (P : Option Int → Hp → Prop), SR G.K Z A σ H ρ → Out G Z W σ A H (evP C .omit ρ) (fun q => ∀ A' H', SR G.K Z A' σ H' q.2 → Ev σ ρ A H q.2 A' H' → P q.1 H') → tNoPart σ H P := fun σ H A ρ P S N => by
  simp only [evP] at N
  exact N.ok A H S Ev.refl
theorem opInt_some {G : Gd} {Z : Act} {σ : L2.St} {ρ : Env} {A : Ow} {H : Hp} {v : V} {o : Op} {i : Int} (r : OpV G.K Z σ ρ A H v o) (e : opInt o = some i) : v = .int i := by
  cases o with
  | d w =>
    cases w with
    | int j =>
      simp only [opInt] at e
      cases e
      cases r
      rfl
    | _ => simp [opInt] at e
  | _ => simp [opInt] at e
theorem p_some {G : Gd} {Z : Act} {W : WX} {C : Ctx} {a : Ex} : ∀ σ H A ρ (P : Option Int → Hp → Prop), SR G.K Z A σ H ρ → Out G Z W σ A H (evP C (.tr a) ρ) (fun q => ∀ A' H', SR G.K Z A' σ H' q.2 → Ev σ ρ A H q.2 A' H' → P q.1 H') → tPart (tE G Z W (evE C a)) σ H P := fun σ H A ρ P S N => by
  simp only [evP] at N
  refine ⟨A, ρ, S, N.bind.mono fun x e N1 => fun v A1 H1 S1 E1 R1 F1 => ?_⟩
  obtain ⟨i, e2, N2⟩ := N1.ofO
  exact ⟨i, opInt_some R1 e2, N2.ok A1 H1 S1 E1⟩
end
end MP
/-! MF: the operations of one operand; truth. Own work. -/
namespace MP
open PySem
open PySem.Spec
open PyProof.Rows
open L2
section
variable {K : PySem.W.Frag}
theorem ru_neg : Rule1 K (sem1 .neg) (rU fun i => .int (-i)) := by
  intro A H x u o Q hA hx e k
  cases u with
  | int i =>
    simp only [sem1] at e
    cases e
    exact ⟨i, rdInt hx, k _ _ _ (res_d (.int _))⟩
  | _ => simp [sem1] at e
abbrev RC := List V → Hp → VK → Prop
def RuleC (K : PySem.W.Frag) (f : D → Option Op) (r : RC) : Prop := Rule1 K f fun x H Q => r [x] H Q
def rLen (K : PySem.W.Frag) : RC := fun xs H Q => (∃ p ys, xs = [.ref p] ∧ (SqL K H p ys ∨ SqT K H p ys) ∧ Q (.int ys.length) H) ∨ (∃ z, xs = [.str z] ∧ z.length ≤ sizeLine ∧ Q (.int z.length) H)
theorem call_lenX {X : Cx} : CallR X (.builtin "len") (rLen X.K) := CallR.or call_len_seq call_len_str
theorem ru_len : RuleC K (sem1 .len) (rLen K) := by
  intro A H x u o Q hA hx e k
  cases u with
  | lst xs =>
    simp only [sem1] at e
    cases e
    obtain ⟨a, vs, rfl, h1, r1⟩ := rdLst hx
    exact .inl ⟨a, vs, rfl, .inl (.inl (.inl h1)), by rw [r1.length]; exact k _ _ _ (res_d (.int _))⟩
  | fz xs =>
    simp only [sem1] at e
    cases e
    obtain ⟨a, vs, rfl, h1, _, r1⟩ := rdFz hx
    exact .inl ⟨a, vs, rfl, .inl h1, by rw [r1.length]; exact k _ _ _ (res_d (.int _))⟩
  | tup xs =>
    simp only [sem1] at e
    cases e
    obtain ⟨a, vs, rfl, h1, r1⟩ := rdTup hx
    exact .inl ⟨a, vs, rfl, .inr h1, by rw [r1.length]; exact k _ _ _ (res_d (.int _))⟩
  | str s =>
    simp [sem1] at e
    obtain ⟨hl, rfl⟩ := e
    exact .inr ⟨_, by rw [rdStr hx], by rw [str_len, line_eq]; exact hl, by rw [str_len]; exact k _ _ _ (res_d (.int _))⟩
  | _ => simp [sem1] at e
theorem ru_abs : RuleC K (sem1 .abs) (fun xs H Q => ∃ i, xs = [.int i] ∧ Q (.int (if i < 0 then -i else i)) H) := by
  intro A H x u o Q hA hx e k
  cases u with
  | int i =>
    simp only [sem1] at e
    cases e
    exact ⟨i, by rw [rdInt hx], k _ _ _ (res_d (.int _))⟩
  | _ => simp [sem1] at e
theorem ru_toInt : RuleC K (sem1 .toInt) (fun xs H Q => (∃ i, xs = [.int i] ∧ Q (.int i) H) ∨ ∃ k, xs = [.bl k] ∧ Q (.int (if k then 1 else 0)) H) := by
  intro A H x u o Q hA hx e k
  cases u with
  | int i =>
    simp only [sem1] at e
    cases e
    exact .inl ⟨i, by rw [rdInt hx], k _ _ _ (res_d (.int _))⟩
  | bl i =>
    simp only [sem1] at e
    cases e
    exact .inr ⟨i, by rw [rdBl hx], k _ _ _ (res_d (.int _))⟩
  | _ => simp [sem1] at e
theorem rd_non {A : Ow} {H : Hp} {x : V} {u : D} (hx : RdD K A H x u) : decide (x = .non) = isNon u := by
  cases u with
  | non => have z := rdNon hx; subst z; rfl
  | lst xs => obtain ⟨a, vs, rfl, _⟩ := rdLst hx; rfl
  | _ => cases (show RepA K A H x _ from hx) <;> rfl
theorem ru_isN : Rule1 K (sem1 .isN) (fun x H Q => Q (.bl (decide (x = .non))) H) := by
  intro A H x u o Q hA hx e k
  simp only [sem1] at e
  cases e
  show Q _ H
  rw [rd_non hx]
  exact k _ _ _ (res_d (.bl _))
theorem ru_notN : Rule1 K (sem1 .notN) (fun x H Q => Q (.bl (!decide (x = .non))) H) := by
  intro A H x u o Q hA hx e k
  simp only [sem1] at e
  cases e
  show Q _ H
  rw [rd_non hx]
  exact k _ _ _ (res_d (.bl _))
theorem ru_sum : RuleC K (sem1 .sum) (rSum K) := by
  intro A H x u o Q hA hx e k
  cases u with
  | lst xs =>
    have e' : (dInts xs).bind (fun ns => some (Op.d (.int ns.sum))) = some o := by simpa only [sem1] using e
    cases q : dInts xs with
    | none => rw [q] at e'; cases e'
    | some ns =>
      rw [q] at e'
      cases e'
      obtain ⟨a, vs, rfl, h1, r1⟩ := rdLst hx
      exact ⟨a, ns, rfl, .inl (.inl (by rw [h1, r1.toInts q])), k _ _ _ (res_d (.int _))⟩
  | _ => simp [sem1] at e
theorem ru_any : RuleC K (sem1 .any) (L2.rAny K) := by
  intro A H x u o Q hA hx e k
  cases u with
  | lst xs =>
    have e' : (dBls xs).bind (fun ns => some (Op.d (.bl (ns.any id)))) = some o := by simpa only [sem1] using e
    cases q : dBls xs with
    | none => rw [q] at e'; cases e'
    | some ns =>
      rw [q] at e'
      cases e'
      obtain ⟨a, vs, rfl, h1, r1⟩ := rdLst hx
      exact ⟨a, ns, rfl, .inl (.inl (by rw [h1, r1.toBls q])), k _ _ _ (res_d (.bl _))⟩
  | _ => simp [sem1] at e
theorem ru_all : RuleC K (sem1 .all) (L2.rAll K) := by
  intro A H x u o Q hA hx e k
  cases u with
  | lst xs =>
    have e' : (dBls xs).bind (fun ns => some (Op.d (.bl (ns.all id)))) = some o := by simpa only [sem1] using e
    cases q : dBls xs with
    | none => rw [q] at e'; cases e'
    | some ns =>
      rw [q] at e'
      cases e'
      obtain ⟨a, vs, rfl, h1, r1⟩ := rdLst hx
      exact ⟨a, ns, rfl, .inl (.inl (by rw [h1, r1.toBls q])), k _ _ _ (res_d (.bl _))⟩
  | _ => simp [sem1] at e
theorem ru_toLst : RuleC K (sem1 .toLst) (fun xs H Q => ∃ p ys, xs = [.ref p] ∧ (SqL K H p ys ∨ SqT K H p ys) ∧ ∀ l, H l = none → Q (.ref l) (upd H l (.lst ys))) := by
  intro A H x u o Q hA hx e k
  cases u with
  | lst xs =>
    simp only [sem1] at e
    cases e
    obtain ⟨a, vs, rfl, h1, r1⟩ := rdLst hx
    exact ⟨a, vs, rfl, .inl (.inl (.inl h1)), fun p hp => k _ _ _ (res_nw hp r1)⟩
  | tup xs =>
    simp only [sem1] at e
    cases e
    obtain ⟨a, vs, rfl, h1, r1⟩ := rdTup hx
    exact ⟨a, vs, rfl, .inr h1, fun p hp => k _ _ _ (res_nw hp r1)⟩
  | _ => simp [sem1] at e
theorem ru_toTup : RuleC K (sem1 .toTup) (fun xs H Q => ∃ p ys, xs = [.ref p] ∧ ((SqL K H p ys ∧ ∀ l, H l = none → Q (.ref l) (upd H l (.tup ys))) ∨ (SqT K H p ys ∧ Q (.ref p) H))) := by
  intro A H x u o Q hA hx e k
  cases u with
  | lst xs =>
    simp only [sem1] at e
    cases e
    obtain ⟨a, vs, rfl, h1, r1⟩ := rdLst hx
    exact ⟨a, vs, rfl, .inl ⟨.inl (.inl h1), fun p hp => k _ _ _ (res_tup hA hp r1)⟩⟩
  | tup xs =>
    simp only [sem1] at e
    cases e
    obtain ⟨a, vs, rfl, h1, r1⟩ := rdTup hx
    exact ⟨a, vs, rfl, .inr ⟨h1, k _ _ _ (res_d hx)⟩⟩
  | _ => simp [sem1] at e
/-! ### max, min -/
theorem maxL_fold : ∀ (n : Int) (ns : List Int), ns.foldl max n = maxL (n :: ns)
  | n, [] => rfl
  | n, [m] => rfl
  | n, m :: k :: r => by
    have h1 := maxL_fold (max n m) (k :: r)
    have h2 := maxL_fold m (k :: r)
    have h3 : ∀ (a b : Int) (l : List Int), (l.foldl max (max a b)) = max a (l.foldl max b) := by
      intro a b l
      induction l generalizing b with
      | nil => rfl
      | cons c l ih => simp only [List.foldl_cons]; rw [Int.max_assoc, ih]
    show List.foldl max (max n m) (k :: r) = max n (maxL (m :: k :: r))
    rw [h3, h2]
theorem minL_fold : ∀ (n : Int) (ns : List Int), ns.foldl min n = minL (n :: ns)
  | n, [] => rfl
  | n, [m] => rfl
  | n, m :: k :: r => by
    have h2 := minL_fold m (k :: r)
    have h3 : ∀ (a b : Int) (l : List Int), (l.foldl min (min a b)) = min a (l.foldl min b) := by
      intro a b l
      induction l generalizing b with
      | nil => rfl
      | cons c l ih => simp only [List.foldl_cons]; rw [Int.min_assoc, ih]
    show List.foldl min (min n m) (k :: r) = min n (minL (m :: k :: r))
    rw [h3, h2]
def rMxX (K : PySem.W.Frag) (f : List Int → Int) : RC := fun xs H Q => ∃ (a : Addr) (n : Int) (ns : List Int), xs = [.ref a] ∧ (SqL K H a ((n :: ns).map V.int) ∨ SqT K H a ((n :: ns).map V.int)) ∧ Q (.int (f (n :: ns))) H
theorem reads_int {h : Heap} {v : Value} {i : Int} {as : List Addr} (r : Reads h v (.int i) as) : ∃ t, v = .int i t := by
  cases r with
  | int i t => exact ⟨t, rfl⟩
theorem readsAll_ints {h : Heap} : ∀ {us : List Value} {ns : List Int}, Vals (ns.map V.int) us → ∃ as, ReadsAll h us (ns.map PyData.int) as
  | us, [], r => by
    cases r
    exact ⟨_, .nil⟩
  | us, n :: ns, r => by
    cases r with
    | cons q s =>
      obtain ⟨t, rfl⟩ := q
      obtain ⟨as, z⟩ := readsAll_ints s
      exact ⟨_, .cons (Reads.int n t) z⟩
theorem alike_intL (l : List Int) : PySem.W.AlikeAll (l.map PyData.int) := by
  refine ⟨fun x hx y hy => ?_, fun x hx z => ?_⟩
  · obtain ⟨i, _, rfl⟩ := List.mem_map.mp hx
    obtain ⟨j, _, rfl⟩ := List.mem_map.mp hy
    simp [PySem.W.alike]
  · obtain ⟨i, _, rfl⟩ := List.mem_map.mp hx
    cases z
theorem ru_mxL : RuleC K (sem1 .mx) (rMxX K maxL) := by
  intro A H x u o Q hA hx e k
  have fin : ∀ xs : List D, (dInts xs).bind (fun ns => if ns.length = 0 then none else some (Op.d (.int (maxL ns)))) = some o → ∃ n ns, dInts xs = some (n :: ns) ∧ o = .d (.int (maxL (n :: ns))) := fun xs h => by
    cases q : dInts xs with
    | none => rw [q] at h; cases h
    | some ns =>
      rw [q] at h
      cases ns with
      | nil => cases h
      | cons n ns => cases h; exact ⟨n, ns, rfl, rfl⟩
  cases u with
  | lst xs =>
    obtain ⟨n, ns, h1, rfl⟩ := fin xs (by simpa only [sem1] using e)
    obtain ⟨a, vs, rfl, h2, r1⟩ := rdLst hx
    exact ⟨a, n, ns, rfl, .inl (.inl (.inl (by rw [h2, r1.toInts h1]))), k _ _ _ (res_d (.int _))⟩
  | tup xs =>
    obtain ⟨n, ns, h1, rfl⟩ := fin xs (by simpa only [sem1] using e)
    obtain ⟨a, vs, rfl, h2, r1⟩ := rdTup hx
    exact ⟨a, n, ns, rfl, .inr (by rw [← r1.toInts h1]; exact h2), k _ _ _ (res_d (.int _))⟩
  | _ => simp [sem1] at e
theorem ru_mnL : RuleC K (sem1 .mn) (rMxX K minL) := by
  intro A H x u o Q hA hx e k
  have fin : ∀ xs : List D, (dInts xs).bind (fun ns => if ns.length = 0 then none else some (Op.d (.int (minL ns)))) = some o → ∃ n ns, dInts xs = some (n :: ns) ∧ o = .d (.int (minL (n :: ns))) := fun xs h => by
    cases q : dInts xs with
    | none => rw [q] at h; cases h
    | some ns =>
      rw [q] at h
      cases ns with
      | nil => cases h
      | cons n ns => cases h; exact ⟨n, ns, rfl, rfl⟩
  cases u with
  | lst xs =>
    obtain ⟨n, ns, h1, rfl⟩ := fin xs (by simpa only [sem1] using e)
    obtain ⟨a, vs, rfl, h2, r1⟩ := rdLst hx
    exact ⟨a, n, ns, rfl, .inl (.inl (.inl (by rw [h2, r1.toInts h1]))), k _ _ _ (res_d (.int _))⟩
  | tup xs =>
    obtain ⟨n, ns, h1, rfl⟩ := fin xs (by simpa only [sem1] using e)
    obtain ⟨a, vs, rfl, h2, r1⟩ := rdTup hx
    exact ⟨a, n, ns, rfl, .inr (by rw [← r1.toInts h1]; exact h2), k _ _ _ (res_d (.int _))⟩
  | _ => simp [sem1] at e
section
variable {X : Cx}
theorem call_mxL (hc : X.calm = true) (hu : X.A.units + 64 < cLine) : CallR X (.builtin "max") (rMxX X.K maxL) := by
  intro pins s σ H vs us Q I r h
  obtain ⟨a, n, ns, rfl, hs, q⟩ := h
  have e1 := Vals.ref1 r
  subst e1
  rcases hs with hs | hs
  · obtain ⟨its, rv, hl, _⟩ := I.list hs
    obtain ⟨as, ra⟩ := readsAll_ints (h := s.heap) rv
    refine PySem.W.max_list_data (I.ok.hd hc) hl.isList (x := .int n) (xs := ns.map .int) (by simpa using ra) (alike_intL (n :: ns)) ?_ fun i v h' tk bs _ rd hk => ?_
    · have z : PyData.depthAll (PyData.int n :: ns.map PyData.int) = 0 := by
        have g : ∀ l : List Int, PyData.depthAll (l.map PyData.int) = 0 := fun l => by
          induction l with
          | nil => rfl
          | cons x l ih => simp only [List.map_cons, PyData.depthAll, PyData.depth, ih]; rfl
        exact g (n :: ns)
      omega
    · rw [PySem.W.maxD_ints] at rd
      obtain ⟨t, rfl⟩ := reads_int rd
      exact ⟨.int _, H, I.kept hk, ⟨_, rfl⟩, by rw [maxL_fold]; exact q⟩
  · obtain ⟨its, rv, hl, _⟩ := I.tuple hs
    obtain ⟨as, ra⟩ := readsAll_ints (h := s.heap) rv
    refine PySem.W.max_tuple_data (I.ok.hd hc) hl (x := .int n) (xs := ns.map .int) (by simpa using ra) (alike_intL (n :: ns)) ?_ fun i v h' tk bs _ rd hk => ?_
    · have z : PyData.depthAll (PyData.int n :: ns.map PyData.int) = 0 := by
        have g : ∀ l : List Int, PyData.depthAll (l.map PyData.int) = 0 := fun l => by
          induction l with
          | nil => rfl
          | cons x l ih => simp only [List.map_cons, PyData.depthAll, PyData.depth, ih]; rfl
        exact g (n :: ns)
      omega
    · rw [PySem.W.maxD_ints] at rd
      obtain ⟨t, rfl⟩ := reads_int rd
      exact ⟨.int _, H, I.kept hk, ⟨_, rfl⟩, by rw [maxL_fold]; exact q⟩
theorem call_mnL (hc : X.calm = true) (hu : X.A.units + 64 < cLine) : CallR X (.builtin "min") (rMxX X.K minL) := by
  intro pins s σ H vs us Q I r h
  obtain ⟨a, n, ns, rfl, hs, q⟩ := h
  have e1 := Vals.ref1 r
  subst e1
  rcases hs with hs | hs
  · obtain ⟨its, rv, hl, _⟩ := I.list hs
    obtain ⟨as, ra⟩ := readsAll_ints (h := s.heap) rv
    refine PySem.W.min_list_data (I.ok.hd hc) hl.isList (x := .int n) (xs := ns.map .int) (by simpa using ra) (alike_intL (n :: ns)) ?_ fun i v h' tk bs _ rd hk => ?_
    · have z : PyData.depthAll (PyData.int n :: ns.map PyData.int) = 0 := by
        have g : ∀ l : List Int, PyData.depthAll (l.map PyData.int) = 0 := fun l => by
          induction l with
          | nil => rfl
          | cons x l ih => simp only [List.map_cons, PyData.depthAll, PyData.depth, ih]; rfl
        exact g (n :: ns)
      omega
    · rw [PySem.W.minD_ints] at rd
      obtain ⟨t, rfl⟩ := reads_int rd
      exact ⟨.int _, H, I.kept hk, ⟨_, rfl⟩, by rw [minL_fold]; exact q⟩
  · obtain ⟨its, rv, hl, _⟩ := I.tuple hs
    obtain ⟨as, ra⟩ := readsAll_ints (h := s.heap) rv
    refine PySem.W.min_tuple_data (I.ok.hd hc) hl (x := .int n) (xs := ns.map .int) (by simpa using ra) (alike_intL (n :: ns)) ?_ fun i v h' tk bs _ rd hk => ?_
    · have z : PyData.depthAll (PyData.int n :: ns.map PyData.int) = 0 := by
        have g : ∀ l : List Int, PyData.depthAll (l.map PyData.int) = 0 := fun l => by
          induction l with
          | nil => rfl
          | cons x l ih => simp only [List.map_cons, PyData.depthAll, PyData.depth, ih]; rfl
        exact g (n :: ns)
      omega
    · rw [PySem.W.minD_ints] at rd
      obtain ⟨t, rfl⟩ := reads_int rd
      exact ⟨.int _, H, I.kept hk, ⟨_, rfl⟩, by rw [minL_fold]; exact q⟩
end
/-! ### repr -/
def rRepr (K : PySem.W.Frag) : RC := fun xs H Q => ∃ x d, xs = [x] ∧ Dp K H x d ∧ d.canLay0 = true ∧ d.showable = true ∧ d.depth ≤ 64 ∧ d.shown.length ≤ sizeLine ∧ Q (.str d.shown) H
theorem call_reprX {X : Cx} (hg : X.A.guards = some []) (hu : X.A.units + 66 < cLine) : CallR X (.builtin "repr") (rRepr X.K) := by
  intro pins s σ H xs us Q I r h
  obtain ⟨x, d, rfl, hd, h1, h2, h3, h4, q⟩ := h
  obtain ⟨u, rfl, rx⟩ := vals1 r
  obtain ⟨as, rd⟩ := Dp.reads I d x u hd rx
  have nd : d.hasDict = false := PyData.hasDict_of_canLay d h1
  cases hd with
  | non => cases rx; exact PySem.P.repr_of_none ⟨.str _, H, I.tok _, ⟨_, rfl⟩, q⟩
  | bl b => cases rx; exact PySem.P.repr_of_bool ⟨.str _, H, I.tok _, ⟨_, rfl⟩, by simpa only [PyData.shown] using q⟩
  | int i => obtain ⟨t, rfl⟩ := rx; exact PySem.P.repr_of_int (by simpa only [PyData.showable, decide_eq_true_eq] using h2) ⟨.str _, H, I.tok _, ⟨_, rfl⟩, q⟩
  | str z => obtain ⟨t, rfl⟩ := rx; exact PySem.P.repr_of_str ⟨.str _, H, I.tok _, ⟨_, rfl⟩, q⟩ h4
  | lst h hs =>
    cases rx
    exact repr_of_reads' rd h2 (PyData.noDict_hsm nd) hg (by omega) (fun _ _ e => e) (fun h' t tk hk => ⟨.str _, H, I.kept hk, ⟨_, rfl⟩, q⟩) h4
  | tup h hs =>
    cases rx
    exact repr_of_reads' rd h2 (PyData.noDict_hsm nd) hg (by omega) (fun _ _ e => e) (fun h' t tk hk => ⟨.str _, H, I.kept hk, ⟨_, rfl⟩, q⟩) h4
theorem ru_repr : RuleC K (sem1 .repr) (rRepr K) := by
  intro A H x u o Q hA hx e k
  simp [sem1] at e
  obtain ⟨h, rfl⟩ := e
  simp only [okShow, Bool.and_eq_true, decide_eq_true_eq] at h
  obtain ⟨h1, h2, h3, h4⟩ := h
  exact ⟨x, toPy u, rfl, hx.dp h1, py_lay u h1, py_show u h2, by rw [py_dep]; exact h3, Nat.le_trans (shown_sz u h1 h2) (by rw [line_eq]; exact h4), k _ _ _ (res_d (.rp u))⟩
/-! ### isinstance of a built-in class -/
def tyOf : D → Option String
  | .non => some "NoneType"
  | .bl _ => some "bool"
  | .int _ => some "int"
  | .str _ => some "str"
  | .rp _ => some "str"
  | .tup _ => some "tuple"
  | .lst _ => some "list"
  | _ => none
theorem tyX_of {A : Ow} {H : Hp} {x : V} {u : D} {T : String} (hx : RdD K A H x u) (e : tyOf u = some T) : TyX K H x (.type T) := by
  cases u with
  | non => cases e; rw [rdNon hx]; exact .base .non
  | bl b => cases e; rw [rdBl hx]; exact .base (.bl _)
  | int i => cases e; rw [rdInt hx]; exact .base (.int _)
  | str s => cases e; rw [rdStr hx]; exact .base (.str _)
  | rp s => cases e; rw [rdRp hx]; exact .base (.str _)
  | tup xs =>
    cases e
    cases (show RepA K A H x (.tup xs) from hx) with
    | tup h n rs =>
      rcases h with h | ⟨o, h⟩
      · exact .base (.tup h)
      · exact .fTuple h
    | tupK h rs =>
      obtain ⟨o, its, n, h1, h2, _⟩ := h
      exact .kTuple h1 h2
  | lst xs =>
    cases e
    obtain ⟨a, vs, rfl, h, _⟩ := rdLst hx
    exact .base (.lst h)
  | fn k c => cases e
  | fz c => cases e
def rIsiB (K : PySem.W.Frag) (T : String) : V → Hp → VK → Prop := fun x H Q => rIsi K [x, .ty T] H Q
theorem ru_isi {f : D → Option Op} {T : String} (hf : ∀ u o, f u = some o → ∃ S b, tyOf u = some S ∧ kitB S T = some b ∧ o = .d (.bl b)) : Rule1 K f (rIsiB K T) := by
  intro A H x u o Q hA hx e k
  obtain ⟨S, b, h1, h2, rfl⟩ := hf u o e
  exact ⟨x, .ty T, .type S, .type T, b, rfl, .ty T, tyX_of hx h1, kit_ty h2, k _ _ _ (res_d (.bl _))⟩
theorem ru_isI : Rule1 K (sem1 .isI) (rIsiB K "int") := ru_isi fun u o e => by
  cases u <;> simp only [sem1] at e <;> first | cases e | skip
  all_goals first | exact ⟨_, _, rfl, (by decide +kernel), rfl⟩
theorem ru_isBl : Rule1 K (sem1 .isB) (rIsiB K "bool") := ru_isi fun u o e => by
  cases u <;> simp only [sem1] at e <;> first | cases e | skip
  all_goals first | exact ⟨_, _, rfl, (by decide +kernel), rfl⟩
theorem ru_isS : Rule1 K (sem1 .isS) (rIsiB K "str") := ru_isi fun u o e => by
  cases u <;> simp only [sem1] at e <;> first | cases e | skip
  all_goals first | exact ⟨_, _, rfl, (by decide +kernel), rfl⟩
theorem ru_isTup : Rule1 K (sem1 .isTup) (rIsiB K "tuple") := ru_isi fun u o e => by
  cases u <;> simp only [sem1] at e <;> first | cases e | skip
  all_goals first | exact ⟨_, _, rfl, (by decide +kernel), rfl⟩
theorem ru_isLst : Rule1 K (sem1 .isLst) (rIsiB K "list") := ru_isi fun u o e => by
  cases u <;> simp only [sem1] at e <;> first | cases e | skip
  all_goals first | exact ⟨_, _, rfl, (by decide +kernel), rfl⟩
/-! ### truth -/
theorem tru_d : TruD K := by
  intro A H x u b hx e
  cases u with
  | non => cases e; rw [rdNon hx]; rfl
  | bl c => cases e; rw [rdBl hx]; rfl
  | int i => cases e; rw [rdInt hx]; rfl
  | str s =>
    simp only [truth] at e
    split at e
    · rename_i h
      cases e
      rw [rdStr hx]
      refine ⟨by rw [str_len, line_eq]; exact h, ?_⟩
      rw [str_len]
      cases s with
      | nil => rfl
      | cons c s =>
        have z : (((c :: s).length : Int) != 0) = true := by
          rw [bne_iff_ne]
          simp only [List.length_cons]
          omega
        rw [z]
        rfl
    · cases e
  | lst xs =>
    simp only [truth] at e
    cases e
    obtain ⟨a, vs, rfl, h, r⟩ := rdLst hx
    exact .inl ⟨vs, .inl (.inl h), by cases r <;> rfl⟩
  | tup xs =>
    simp only [truth] at e
    cases e
    obtain ⟨a, vs, rfl, h, r⟩ := rdTup hx
    exact .inr (.inl ⟨vs, h, by cases r <;> rfl⟩)
  | _ => simp [truth] at e
end
end MP
/-! MFs: sorted of data without texts. Own work. -/
namespace MP
open PySem
open PySem.Spec
open PyProof.Rows
open L2
mutual
theorem ky_ok : ∀ x : MP.D, D.alk x x = true → PySem.W.keyToks (toPy x) = (D.ky x).map Sum.inl
  | .bl b, _ => by simp [toPy, D.ky, PySem.W.keyToks]
  | .int n, _ => by simp [toPy, D.ky, PySem.W.keyToks]
  | .lst xs, h => by
    simp only [D.alk] at h
    simp only [toPy, D.ky, PySem.W.keyToks]
    exact kys_ok xs h
  | .tup xs, h => by
    simp only [D.alk] at h
    simp only [toPy, D.ky, PySem.W.keyToks]
    exact kys_ok xs h
  | .non, h => by simp [D.alk] at h
  | .str _, h => by simp [D.alk] at h
  | .rp _, h => by simp [D.alk] at h
  | .fn _ _, h => by simp [D.alk] at h
  | .fz _, h => by simp [D.alk] at h
theorem kys_ok : ∀ xs : List MP.D, D.alks xs xs = true → PySem.W.keyToksAll (toPys xs) = (D.kys xs).map Sum.inl
  | [], _ => by simp [toPys, D.kys, PySem.W.keyToksAll]
  | x :: xs, h => by
    simp only [D.alks, Bool.and_eq_true] at h
    simp only [toPys, D.kys, PySem.W.keyToksAll, ky_ok x h.1, kys_ok xs h.2, List.map_cons, List.map_append]
end
mutual
theorem alk_ok : ∀ x y : MP.D, D.alk x y = true → PySem.W.alike (toPy x) (toPy y) = true
  | .bl _, y, h => by cases y <;> simp [D.alk] at h; simp [toPy, PySem.W.alike]
  | .int _, y, h => by cases y <;> simp [D.alk] at h; simp [toPy, PySem.W.alike]
  | .lst xs, y, h => by
    cases y <;> simp [D.alk] at h
    simp only [toPy, PySem.W.alike]
    exact alks_ok _ _ h
  | .tup xs, y, h => by
    cases y <;> simp [D.alk] at h
    simp only [toPy, PySem.W.alike]
    exact alks_ok _ _ h
  | .non, y, h => by simp [D.alk] at h
  | .str _, y, h => by simp [D.alk] at h
  | .rp _, y, h => by simp [D.alk] at h
  | .fn _ _, y, h => by simp [D.alk] at h
  | .fz _, y, h => by simp [D.alk] at h
theorem alks_ok : ∀ xs ys : List MP.D, D.alks xs ys = true → PySem.W.alikeAll (toPys xs) (toPys ys) = true
  | [], ys, _ => by simp [toPys, PySem.W.alikeAll]
  | x :: xs, [], _ => by simp [toPys, PySem.W.alikeAll]
  | x :: xs, y :: ys, h => by
    simp only [D.alks, Bool.and_eq_true] at h
    simp only [toPys, PySem.W.alikeAll, Bool.and_eq_true]
    exact ⟨alk_ok x y h.1, alks_ok xs ys h.2⟩
end
theorem lex_inl : ∀ l m : List Int, PyProof.Rows.lexLt PyProof.Rows.itemOrd (l.map Sum.inl) (m.map Sum.inl) = lexI l m
  | [], [] => rfl
  | [], _ :: _ => rfl
  | _ :: _, [] => rfl
  | x :: l, y :: m => by
    simp only [List.map_cons, lexI]
    rw [← lex_inl l m]
    rfl
abbrev PrD := V × MP.D
theorem each_zip : ∀ {vs : List V} {us : List Value} {ds : List MP.D}, Vals vs us → vs.length = ds.length → PySem.W.EachIs (fun (u : Value) (b : PrD) => L2.RelV b.1 u) us (vs.zip ds)
  | _, _, [], .nil, _ => .nil
  | _, _, d :: ds, .cons r h, e => .cons r (each_zip h (by simpa using e))
  | _, _, [], .cons _ _, e => by simp at e
  | _, _, _ :: _, .nil, e => by simp at e
theorem each_back : ∀ {us : List Value} {bs : List PrD}, PySem.W.EachIs (fun (u : Value) (b : PrD) => L2.RelV b.1 u) us bs → Vals (bs.map (·.1)) us
  | _, _, .nil => .nil
  | _, _, .cons r h => .cons r (each_back h)
theorem each_reads {X : Cx} {pins : List (Addr × Obj)} {σ : L2.St} {H : Hp} {s : Shared} (I : Inv X pins σ H s) : ∀ {vs : List V} {us : List Value} {ds : List MP.D}, Vals vs us → DpAll X.K H vs (toPys ds) → PySem.W.EachIs (fun (u : Value) (b : PrD) => ∃ as, Reads s.heap u (toPy b.2) as) us (vs.zip ds)
  | _, _, [], .nil, _ => .nil
  | _, _, d :: ds, .cons r h, e => by
    simp only [toPys] at e
    cases e with
    | cons e1 e2 => exact .cons (Dp.reads I _ _ _ e1 r) (each_reads I h e2)
  | _, _, [], .cons _ _, e => by simp only [toPys] at e; cases e
  | _, _, _ :: _, .nil, e => by simp only [toPys] at e; cases e
section
variable {prog : Program} {w : World} {A : Around} {E : Value → Shared → Prop} {s : Shared}
theorem coll_tup {l : Addr} {vs : List Value} {Q : List Value → Shared → Prop} (hl : s.heap.IsTuple l vs.toArray) (hsz : vs.length ≤ sizeLine)
    (h : Q vs { s with heap := (s.heap.push (seqObj "list" #[] 0)).update s.heap.objs.size (Obj.mapSeq (· ++ vs.toArray)) }) : wpAny (model prog w) A (collect (.ref l)) Q E s := by
  obtain ⟨ob, hob, cl, n, da⟩ := id hl
  unfold collect
  apply wpAny_bind
  apply wpAny_runValue
  refine codeAny_builtin entry_proto_collect' ?_
  show wpAny _ _ (do
    again (.builtin "list.__iadd__" ⟨[← newList [], .ref l], []⟩)) _ _ s
  refine wpAny_bind (wpAny_newList (wpAny_pure ⟨Code.quiet_builtin _ (by decide +kernel), ?_⟩))
  refine codeAny_builtin entry_list_iadd' ?_
  show wpAny _ _ (Builtin.List.listExtendWith (.ref s.heap.objs.size)
    (.ref l) (.ref s.heap.objs.size)) _ _ { s with heap := s.heap.push (seqObj "list" #[] 0) }
  unfold Builtin.List.listExtendWith
  have hob' := Heap.get?_push_of_some (o := seqObj "list" #[] 0) hob
  refine wpAny_bind (wpAny_typeOf (T := "tuple") ⟨ob, hob', cl⟩ ?_)
  have ht : (Value.type "tuple" == Value.type "tuple") = true := rfl
  rw [if_pos (by rw [ht]; simp)]
  refine wpAny_bind (listItems_at hob' da ?_)
  have new := Heap.get?_push_size s.heap (o := seqObj "list" #[] 0) rfl
  refine wpAny_bind (listItems_at (n := 0) (xs := #[]) new rfl ?_)
  rw [if_neg (by simp)]
  refine wpAny_bind (listUpdate_at (n := 0) (xs := #[]) new rfl ?_ (Nat.zero_le _) ?_)
  · refine wpAny_pure ?_
    show wpAny (model prog w) A (do
      let o ← load s.heap.objs.size
      match o.data with
      | .seq xs _ => pure xs.toList
      | _ => unsupported "internal:collect") Q E _
    refine wpAny_bind (wpAny_load (get?_update_seq new _) ?_)
    show wpAny _ _ (pure ((#[] : Array Value) ++ vs.toArray).toList) Q E _
    have e : ((#[] : Array Value) ++ vs.toArray).toList = vs := by simp
    rw [e]
    exact wpAny_pure h
  · have e : ((#[] : Array Value) ++ vs.toArray).size = vs.length := by simp
    rw [e]
    omega
theorem srt_tup {l : Addr} {vs : List Value} {bs : List PrD} {Q : Value → Shared → Prop} (hl : s.heap.IsTuple l vs.toArray) (e : PySem.W.EachIs (fun (u : Value) (b : PrD) => L2.RelV b.1 u) vs bs) (er : PySem.W.EachIs (fun (u : Value) (b : PrD) => ∃ as, Reads s.heap u (toPy b.2) as) vs bs)
    (hal : PySem.W.AllAlike (bs.map fun b => toPy b.2)) (hk : PySem.W.Sortable (bs.map fun b => toPy b.2)) (hL : bs.length ≤ sizeLine) (hu : ∀ b, b ∈ bs → A.units + 2 + (toPy b.2).depth < cLine)
    (h : ∀ out, out.length = bs.length → PySem.W.EachIs (fun (u : Value) (b : PrD) => L2.RelV b.1 u) out (bs.mergeSort (PySem.W.dataLe false fun b => toPy b.2)) → Q (.ref (s.heap.objs.size + 1)) { s with heap := PyProof.Rows.sortedAll s.heap vs (List.toArray out) }) :
    wpAny (model prog w) A (call (.builtin "sorted") [.ref l]) Q E s := by
  have hv : vs.length ≤ sizeLine := by rw [e.length]; exact hL
  have er' : PySem.W.EachIs (fun (u : Value) (b : PrD) => ∃ as, Reads (PySem.W.sortingHeap (PySem.W.copyHeap s.heap vs) (s.heap.objs.size + 1) vs) u (toPy b.2) as) vs bs :=
    er.mono fun _ _ ⟨as, r⟩ => ⟨as, PyProof.Rows.Reads.keeps (fun _ _ => PySem.W.sorting_copy_old) r⟩
  have S : PySem.W.SortsAt prog w A.in1.in1 { s with heap := PySem.W.sortingHeap (PySem.W.copyHeap s.heap vs) (s.heap.objs.size + 1) vs } (PySem.W.dataKind (PySem.W.sortingHeap (PySem.W.copyHeap s.heap vs) (s.heap.objs.size + 1) vs) (bs.map fun b => toPy b.2)) vs :=
    PySem.W.SortsAt.data (s := { s with heap := PySem.W.sortingHeap (PySem.W.copyHeap s.heap vs) (s.heap.objs.size + 1) vs }) (PySem.W.each_map (R := fun v d => ∃ as, Reads (PySem.W.sortingHeap (PySem.W.copyHeap s.heap vs) (s.heap.objs.size + 1) vs) v d as) (fun b : PrD => toPy b.2) er') hal hk (PySem.W.bound_map hu)
  have fin := h _ (by rw [PySem.W.sortVals_length false rfl]; exact e.length) (PySem.W.sortVals_data false e er' hal)
  refine Calls.call_function_entry kind_sorted plain_sorted
    entry_sorted (args_sorted1 _) ?_
  unfold Builtin.«sorted»
  apply wpAny_bind (m := checkCount "sorted" 1 1 _)
  apply wpAny_pure
  refine wpAny_bind (coll_tup hl hv ?_)
  apply wpAny_bind
  refine wpAny_newList ?_ hv
  have z : ((s.heap.push (seqObj "list" #[] 0)).update s.heap.objs.size
      (Obj.mapSeq (· ++ vs.toArray))).objs.size = s.heap.objs.size + 1 := by rw [Heap.size_update, size_push']
  show wpAny _ _ _ _ _ { s with heap := PySem.W.copyHeap s.heap vs }
  rw [z]
  apply wpAny_bind
  apply wpAny_holding
  refine wpAny_call_entry slot_list_sort
    ⟨_, PySem.W.copyHeap_at s.heap vs, rfl⟩ entry_list_sort ?_ (args_list_sort _)
  show wpAny (model prog w) A.in1.in1 (Builtin.«list.sort»
    ⟨[.ref (s.heap.objs.size + 1)], []⟩) _ _ _
  exact PySem.W.list_sort_vals (s := { s with heap := PySem.W.copyHeap s.heap vs })
    (PySem.W.copyHeap_at s.heap vs) S hv ⟨_, rfl, wpAny_pure ⟨_, rfl, fin⟩⟩
end
def srt (vs : List V) (ds : List MP.D) : List PrD := (vs.zip ds).mergeSort fun p q => leD p.2 q.2
def rSortX (K : PySem.W.Frag) : RC := fun xs H Q => ∃ (a : Addr) (vs : List V) (ds : List MP.D), xs = [.ref a] ∧ (SqL K H a vs ∨ SqT K H a vs) ∧ vs.length = ds.length ∧ DpAll K H vs (toPys ds) ∧ sortOk ds = true ∧ ∀ p, H p = none → Q (.ref p) (upd H p (.lst ((srt vs ds).map (·.1))))
theorem zip_mem {vs : List V} {ds : List MP.D} {p : PrD} (h : p ∈ vs.zip ds) : p.2 ∈ ds := (List.of_mem_zip h).2
theorem call_sortX {X : Cx} (hu : X.A.units + 66 < cLine) : CallR X (.builtin "sorted") (rSortX X.K) := by
  intro pins s σ H xs us Q I r h
  obtain ⟨a, vs, ds, rfl, hs, hlen, hd, ok, q⟩ := h
  rw [Vals.ref1 r]
  simp only [sortOk, Bool.and_eq_true, List.all_eq_true, decide_eq_true_eq, Bool.or_eq_true] at ok
  obtain ⟨⟨k1, k2⟩, k3, k4⟩ := ok
  have le : ∀ p ∈ vs.zip ds, ∀ q ∈ vs.zip ds, PySem.W.dataLe false (fun b : PrD => toPy b.2) p q = leD p.2 q.2 := fun p hp q hq => by
    show (!PyProof.Rows.lexLt PyProof.Rows.itemOrd (PySem.W.keyToks (toPy q.2)) (PySem.W.keyToks (toPy p.2))) = _
    rw [ky_ok _ (k3 _ (zip_mem hq) _ (zip_mem hq)), ky_ok _ (k3 _ (zip_mem hp) _ (zip_mem hp)), lex_inl]
    rfl
  have es : (vs.zip ds).mergeSort (PySem.W.dataLe false fun b : PrD => toPy b.2) = srt vs ds := by
    have z := List.map_mergeSort (f := (id : PrD → PrD)) (s := fun p q : PrD => leD p.2 q.2) le
    simpa [srt] using z
  have zl : (vs.zip ds).length = vs.length := by rw [List.length_zip]; omega
  have al : PySem.W.AllAlike ((vs.zip ds).map fun b : PrD => toPy b.2) := fun d hd d' hd' => by
    obtain ⟨b, hb, rfl⟩ := List.mem_map.mp hd
    obtain ⟨c, hc, rfl⟩ := List.mem_map.mp hd'
    exact alk_ok _ _ (k3 _ (zip_mem hb) _ (zip_mem hc))
  have so : PySem.W.Sortable ((vs.zip ds).map fun b : PrD => toPy b.2) := by
    rcases k4 with k4 | k4
    · refine .inl fun d hd => ?_
      obtain ⟨b, hb, rfl⟩ := List.mem_map.mp hd
      have z := k4 _ (zip_mem hb)
      cases e : b.2 with
      | tup xs =>
        cases xs with
        | nil => rw [e] at z; cases z
        | cons x xs => exact ⟨toPy x, toPys xs, by simp [toPy, toPys]⟩
      | _ => rw [e] at z; cases z
    · refine .inr fun d hd => ?_
      obtain ⟨b, hb, rfl⟩ := List.mem_map.mp hd
      have z := k4 _ (zip_mem hb)
      have z2 := k3 _ (zip_mem hb) _ (zip_mem hb)
      cases e : b.2 <;> rw [e] at z z2 <;> first | (cases z; done) | (cases z2; done) | exact ⟨by simp [toPy], fun xs => by simp [toPy]⟩
  have un : ∀ b, b ∈ vs.zip ds → X.A.units + 2 + (toPy b.2).depth < cLine := fun b hb => by
    have z := k2 _ (zip_mem hb)
    rw [← py_dep] at z
    omega
  have fin : ∀ (its out : List Value), vs.length ≤ sizeLine → PySem.W.EachIs (fun (u : Value) (b : PrD) => L2.RelV b.1 u) out (srt vs ds) → EP X pins σ Q (.ref (s.heap.objs.size + 1)) { s with heap := PyProof.Rows.sortedAll s.heap its (List.toArray out) } := fun its out hz eo => by
    obtain ⟨ep, he'⟩ := PyProof.Rows.sortedAll_at s.heap its out.toArray
    have hlen2 : ((srt vs ds).map (·.1)).length ≤ sizeLine := by
      rw [List.length_map, srt, List.length_mergeSort, zl]
      exact hz
    exact ⟨.ref _, upd H (s.heap.objs.size + 1) (.lst ((srt vs ds).map (·.1))), I.laid (t' := s.toks) (fun _ _ => PyProof.Rows.sortedAll_old) (Nat.le_succ _) ⟨hlen2, out, ep, each_back eo, he'⟩, rfl, q _ (I.hok.fresh (Nat.le_succ _))⟩
  rcases hs with hs | hs
  · obtain ⟨its, rv, hl, hz⟩ := I.list hs
    refine PySem.W.sorted_data (enc := fun b : PrD => toPy b.2) hl.isList (each_zip rv hlen) (each_reads I rv hd) al so (by rw [zl]; exact hz) un fun out ho eo => ?_
    rw [es] at eo
    exact fin its out hz eo
  · obtain ⟨its, rv, hl, hz⟩ := I.tuple hs
    refine srt_tup (show s.heap.IsTuple a its.toArray from hl) (each_zip rv hlen) (each_reads I rv hd) al so (by rw [zl]; exact hz) un fun out ho eo => ?_
    rw [es] at eo
    exact fin its out hz eo
theorem reps_of {K : PySem.W.Frag} {A : Ow} {H : Hp} : ∀ l : List PrD, (∀ p ∈ l, RepA K A H p.1 p.2) → RepAs K A H (l.map (·.1)) (l.map (·.2))
  | [], _ => .nil
  | p :: l, h => .cons (h p List.mem_cons_self) (reps_of l fun q hq => h q (List.mem_cons_of_mem _ hq))
theorem reps_zip {K : PySem.W.Frag} {A : Ow} {H : Hp} : ∀ {vs : List V} {ds : List MP.D}, RepAs K A H vs ds → ∀ p ∈ vs.zip ds, RepA K A H p.1 p.2
  | _, _, .nil, p, hp => by simp at hp
  | _, _, .cons r rs, p, hp => by
    simp only [List.zip_cons_cons, List.mem_cons] at hp
    rcases hp with rfl | hp
    · exact r
    · exact reps_zip rs p hp
theorem srt_snd {vs : List V} {ds : List MP.D} (h : vs.length = ds.length) : (srt vs ds).map (·.2) = ds.mergeSort leD := by
  unfold srt
  rw [List.map_mergeSort (s := leD) fun a _ b _ => rfl, List.map_snd_zip (by omega)]
theorem ru_sort {K : PySem.W.Frag} : RuleC K (sem1 .sorted) (rSortX K) := by
  intro A H x u o Q hA hx e k
  have go : ∀ (a : Addr) (vs : List V) (ds : List MP.D), x = .ref a → (SqL K H a vs ∨ SqT K H a vs) → RepAs K A H vs ds → (if sortOk ds = true then some (Op.nw (ds.mergeSort leD)) else none) = some o → rSortX K [x] H Q := fun a vs ds ex hs r1 e => by
    by_cases ok : sortOk ds = true
    · rw [if_pos ok] at e
      cases e
      have pl : D.plains ds = true := by
        have z : ∀ l : List MP.D, l.all D.plain = true → D.plains l = true := fun l h => by
          induction l with
          | nil => rfl
          | cons y l ih =>
            simp only [List.all_cons, Bool.and_eq_true] at h
            simp only [D.plains, Bool.and_eq_true]
            exact ⟨h.1, ih h.2⟩
        refine z ds ?_
        have ok' := ok
        simp only [sortOk, Bool.and_eq_true] at ok'
        exact ok'.1.1
      refine ⟨a, vs, ds, by rw [ex], hs, r1.length, RepAs.dp r1 pl, ok, fun p hp => k _ _ _ (res_nw hp ?_)⟩
      have z := reps_of (srt vs ds) fun q hq => reps_zip r1 q ((List.mergeSort_perm _ _).mem_iff.mp hq)
      rw [srt_snd r1.length] at z
      exact z
    · rw [if_neg ok] at e
      cases e
  cases u with
  | lst ds =>
    simp only [sem1] at e
    obtain ⟨a, vs, rfl, h1, r1⟩ := rdLst hx
    exact go a vs ds rfl (.inl (.inl (.inl h1))) r1 e
  | tup ds =>
    simp only [sem1] at e
    obtain ⟨a, vs, rfl, h1, r1⟩ := rdTup hx
    exact go a vs ds rfl (.inr h1) r1 e
  | _ => simp [sem1] at e
def rRev (K : PySem.W.Frag) : V → Hp → VK → Prop := fun x H Q => ∃ a xs, x = .ref a ∧ SqL K H a xs ∧ ∀ p, H p = none → Q (.ref p) (upd H p (.lst xs.reverse))
theorem reps_rev {K : PySem.W.Frag} {A : Ow} {H : Hp} : ∀ {vs : List V} {ds : List MP.D}, RepAs K A H vs ds → RepAs K A H vs.reverse ds.reverse
  | _, _, .nil => .nil
  | _, _, .cons r rs => by
    rw [List.reverse_cons, List.reverse_cons]
    exact (reps_rev rs).append (.cons r .nil)
theorem ru_rev {K : PySem.W.Frag} : Rule1 K (sem1 .rev) (rRev K) := by
  intro A H x u o Q hA hx e k
  cases u with
  | lst ds =>
    simp only [sem1] at e
    cases e
    obtain ⟨a, vs, rfl, h1, r1⟩ := rdLst hx
    exact ⟨a, vs, rfl, .inl (.inl h1), fun p hp => k _ _ _ (res_nw hp (reps_rev r1))⟩
  | _ => simp [sem1] at e
end MP
/-! MG: targets, what is walked, statements. Own work. -/
namespace MP
open PySem
open PySem.Spec
open PyProof.Rows
open L2
section
variable {K : PySem.W.Frag} {Z : Act} {A A' A1 : Ow} {σ σ' : L2.St} {H H' H1 : Hp} {ρ ρ' : Env} {v : V} {x : D}
theorem set_ge {α : Type} {l : List α} {i : Nat} {a : α} (h : ¬ i < l.length) : l.set i a = l := List.set_eq_of_length_le (by omega)
theorem getD_set_eq {σ : L2.St} {i : Nat} {s : Option V} (h : i < σ.length) : (σ.set i s).getD i none = s := by
  rw [List.getD_eq_getElem?_getD, List.getElem?_set_self h]; rfl
theorem getD_set_ne {σ : L2.St} {i j : Nat} {s : Option V} (h : i ≠ j) : (σ.set i s).getD j none = σ.getD j none := by
  rw [List.getD_eq_getElem?_getD, List.getD_eq_getElem?_getD, List.getElem?_set_ne h]
/-- a slot stored -/
theorem SR.store (S : SR K Z A σ H ρ) {i : Nat} {s : Option V} {y : Sl} (h : SlR K Z A H i s y) (hy : ∀ p xs a, y = .ol p xs → s = some (.ref a) → ¬ Own σ ρ a) : SR K Z A (σ.set i s) H (ρ.set i y) := by
  by_cases hi : i < σ.length
  · have hi' : i < ρ.length := by rw [S.len]; exact hi
    refine ⟨S.hs, by rw [List.length_set, List.length_set]; exact S.len, fun j hj => ?_, fun j k a p q xs ys hjk hj hk h1 h2 => ?_⟩
    · by_cases e : i = j
      · subst e
        rw [getD_set_eq hi, at_set_eq hi']
        exact h
      · rw [getD_set_ne e, at_set_ne e]
        exact S.sl j (by rw [List.length_set] at hj; exact hj)
    · by_cases e : i = j
      · subst e
        rw [at_set_eq hi'] at hj
        rw [at_set_ne hjk] at hk
        rw [List.getElem?_set_self hi] at h1
        rw [List.getElem?_set_ne hjk] at h2
        exact hy p xs a hj (Option.some.inj h1) ⟨k, q, ys, hk, h2⟩
      · rw [at_set_ne e] at hj
        rw [List.getElem?_set_ne e] at h1
        by_cases e2 : i = k
        · subst e2
          rw [at_set_eq hi'] at hk
          rw [List.getElem?_set_self hi] at h2
          exact hy q ys a hk (Option.some.inj h2) ⟨j, p, xs, hj, h1⟩
        · rw [at_set_ne e2] at hk
          rw [List.getElem?_set_ne e2] at h2
          exact S.inj j k a p q xs ys hjk hj hk h1 h2
  · rw [set_ge hi, set_ge (by rw [S.len]; exact hi)]
    exact S
theorem SR.storeD (S : SR K Z A σ H ρ) {i : Nat} (r : RepA K A H v x) : SR K Z A (σ.set i (some v)) H (ρ.set i (.d x)) := S.store ⟨v, rfl, r⟩ fun _ _ _ h => nomatch h
/-- an owned list is written -/
theorem SR.write (S : SR K Z A σ H ρ) {i : Nat} {p : Bool} {xs ys : List D} {a : Addr} {ws : List V} (e : ρ.at i = .ol p xs) (ea : σ[i]? = some (some (.ref a))) (r : RepAs K A H ws ys) :
    SR K Z A σ (upd H a (.lst ws)) (ρ.set i (.ol p ys)) ∧ Fr A H A (upd H a (.lst ws)) := by
  obtain ⟨b, vs, e1, r1, r2, r3, r4, r5⟩ := S.olist e
  rw [ea] at e1
  cases e1
  have f : Fr A H A (upd H a (.lst ws)) := fun c o h n => ⟨by rw [upd_ne (fun z => n (by rw [z]; exact r1))]; exact h, n⟩
  have hl := at_lt e (fun q => nomatch q)
  have dm : ∀ c, H c ≠ none → upd H a (.lst ws) c ≠ none := fun c h => by
    by_cases z : c = a
    · rw [z, upd_same]; exact fun q => nomatch q
    · rw [upd_ne z]; exact h
  refine ⟨⟨⟨fun c h => dm c (S.hs.dom c h), S.hs.sub, fun c o h n => ?_, fun c h => dm c (S.hs.oldd c h), S.hs.dom0, S.hs.wr0⟩, by rw [List.length_set]; exact S.len, fun j hj => ?_, fun j k c p' q xs' ys' hjk hj hk h1 h2 => ?_⟩, f⟩
  · by_cases z : c = a
    · subst z
      cases p with
      | true => exact absurd r4.2 n
      | false =>
        have r4' : Z.H0 c = none := r4
        rw [r4'] at h; cases h
    · rw [upd_ne z]; exact S.hs.old c o h n
  · by_cases z : i = j
    · subst z
      rw [at_set_eq hl]
      exact ⟨a, ws, some_getD ea, r1, upd_same, RepAs.mono f r, r4⟩
    · rw [at_set_ne z]
      refine (S.sl j hj).mono f fun q zs c h1 h2 => ?_
      have k := S.sl j hj
      rw [h1] at k
      obtain ⟨c', vs', k1, k2, k3, _⟩ := k
      rw [h2] at k1
      cases k1
      refine ⟨k2, upd_ne fun w => ?_⟩
      subst w
      exact S.inj i j c p q xs zs z e h1 ea (getD_some h2)
  · have g : ∀ m q zs, (Env.at (ρ.set i (.ol p ys)) m = .ol q zs) → ∃ zs', ρ.at m = .ol q zs' := fun m q zs h => by
      by_cases z : i = m
      · subst z
        rw [at_set_eq hl] at h
        cases h
        exact ⟨xs, e⟩
      · rw [at_set_ne z] at h
        exact ⟨zs, h⟩
    obtain ⟨z1, g1⟩ := g j _ _ hj
    obtain ⟨z2, g2⟩ := g k _ _ hk
    exact S.inj j k c p' q z1 z2 hjk g1 g2 h1 h2
/-- a step that may write owned lists -/
structure Es (σ : L2.St) (ρ : Env) (A : Ow) (H : Hp) (A' : Ow) (H' : Hp) : Prop where
  fr : Fr A H A' H'
  keep : ∀ a o, H a = some o → ¬ Own σ ρ a → H' a = some o
theorem Es.refl : Es σ ρ A H A H := ⟨Fr.refl, fun _ _ h _ => h⟩
/-! ### targets -/
def tgN : Tg → List Nat
  | .name i => [i]
  | .ixL _ _ => []
  | .ixV _ _ => []
  | .nil => []
  | .cons a r => tgN a ++ tgN r
  | .tup ts => tgN ts
/-- what is wanted of an assignment -/
def PG' (K : PySem.W.Frag) (Z : Act) (ns : List Nat) (σ : L2.St) (ρ : Env) (A : Ow) (H : Hp) (ρ' : Env) (Q : L2.St → Hp → Prop) : Prop :=
  ∀ σ' H', SR K Z A σ' H' ρ' → Es σ ρ A H A H' → (∀ i, i ∉ ns → σ'[i]? = σ[i]?) → (∀ a, Own σ' ρ' a → Own σ ρ a) → Q σ' H'
def tG (K : PySem.W.Frag) (Z : Act) (t : Tg) : TG := fun v σ H Q => ∃ A ρ x ρ', SR K Z A σ H ρ ∧ RepA K A H v x ∧ asgT t x ρ = some ρ' ∧ PG' K Z (tgN t) σ ρ A H ρ' Q
def tGs (K : PySem.W.Frag) (Z : Act) (t : Tg) : TGs := fun vs σ H Q => ∃ A ρ xs ρ', SR K Z A σ H ρ ∧ RepAs K A H vs xs ∧ asgTs t xs ρ = some ρ' ∧ PG' K Z (tgN t) σ ρ A H ρ' Q
/-- owned ones behind a store of data -/
theorem own_storeD {i : Nat} {s : Option V} {y : D} (hl : ρ.length = σ.length) {a : Addr} (h : Own (σ.set i s) (ρ.set i (.d y)) a) : Own σ ρ a := by
  obtain ⟨j, p, xs, h1, h2⟩ := h
  by_cases e : i = j
  · subst e
    by_cases hi : i < ρ.length
    · rw [at_set_eq hi] at h1; cases h1
    · rw [set_ge hi] at h1
      rw [set_ge (by rw [← hl]; exact hi)] at h2
      exact ⟨i, p, xs, h1, h2⟩
  · rw [at_set_ne e] at h1
    rw [List.getElem?_set_ne e] at h2
    exact ⟨j, p, xs, h1, h2⟩
theorem own_write {i : Nat} {p : Bool} {xs ys : List D} (e : ρ.at i = .ol p xs) {a : Addr} (h : Own σ (ρ.set i (.ol p ys)) a) : Own σ ρ a := by
  obtain ⟨j, q, zs, h1, h2⟩ := h
  by_cases z : i = j
  · subst z
    exact ⟨i, p, xs, e, h2⟩
  · rw [at_set_ne z] at h1
    exact ⟨j, q, zs, h1, h2⟩
theorem g_name {i : Nat} : ∀ v σ H Q, tG K Z (.name i) v σ H Q → gName i v σ H Q := fun v σ H Q ⟨A, ρ, x, ρ', S, r, e, P⟩ => by
  simp only [asgT] at e
  cases e
  refine P _ H (S.storeD r) Es.refl (fun j hj => ?_) fun a h => own_storeD S.len h
  simp only [tgN, List.mem_singleton] at hj
  exact List.getElem?_set_ne (fun z => hj z.symm)
theorem setAt_some {i : Nat} {k : Int} {x : D} (h : setAt ρ i k x = some ρ') : ∃ p xs j, ρ.at i = .ol p xs ∧ MP.ixN xs.length k = some j ∧ ρ' = ρ.set i (.ol p (xs.set j x)) := by
  unfold setAt at h
  cases e : ρ.at i with
  | un => rw [e] at h; cases h
  | d y => rw [e] at h; cases h
  | ol p xs =>
    rw [e] at h
    dsimp only at h
    cases q : MP.ixN xs.length k with
    | none => rw [q] at h; cases h
    | some j =>
      rw [q] at h
      cases h
      exact ⟨p, xs, j, rfl, q, rfl⟩
/-- x[k] = v, x in slot i -/
theorem set_go (S : SR K Z A σ H ρ) {i : Nat} {k : Int} (r : RepA K A H v x) (e : setAt ρ i k x = some ρ') {Q : Hp → Prop} (hQ : ∀ H', SR K Z A σ H' ρ' → Es σ ρ A H A H' → (∀ a, Own σ ρ' a → Own σ ρ a) → Q H') :
    ∃ y, σ[i]? = some (some y) ∧ rSetL y (.int k) v H Q := by
  obtain ⟨p, xs, j, e1, e2, rfl⟩ := setAt_some e
  obtain ⟨a, vs, e3, r1, r2, r3, r4, r5⟩ := S.olist e1
  obtain ⟨S', f⟩ := S.write e1 e3 (r3.set r j)
  refine ⟨.ref a, e3, a, vs, k, j, rfl, rfl, r2, ?_, hQ _ S' ⟨f, fun b o h n => ?_⟩ fun a h => own_write e1 h⟩
  · rw [r3.length]; exact e2
  · rw [upd_ne (fun z => n (by rw [z]; exact r5))]; exact h
theorem g_ixL {i : Nat} {k : Int} : ∀ v σ H Q, tG K Z (.ixL i k) v σ H Q → gSub (tVar i) (tC (.int k)) rSetL v σ H Q := fun v σ H Q ⟨A, ρ, x, ρ', S, r, e, P⟩ => by
  simp only [asgT] at e
  obtain ⟨y, h1, h2⟩ := set_go S r e (Q := fun H' => Q σ H') fun H' S' E m => P σ H' S' E (fun _ _ => rfl) m
  exact ⟨y, h1, h2⟩
theorem g_ixV {i j : Nat} : ∀ v σ H Q, tG K Z (.ixV i j) v σ H Q → gSub (tVar i) (tVar j) rSetL v σ H Q := fun v σ H Q ⟨A, ρ, x, ρ', S, r, e, P⟩ => by
  simp only [asgT] at e
  cases q : ρ.at j with
  | un => rw [q] at e; cases e
  | ol p xs => rw [q] at e; cases e
  | d w =>
    rw [q] at e
    cases w with
    | int k =>
      dsimp only at e
      obtain ⟨y, h1, h2⟩ := set_go S r e (Q := fun H' => Q σ H') fun H' S' E m => P σ H' S' E (fun _ _ => rfl) m
      obtain ⟨u, h3, h4⟩ := S.data q
      cases h4
      exact ⟨y, h1, _, h3, h2⟩
    | _ => cases e
theorem g_nil : ∀ vs σ H Q, tGs K Z .nil vs σ H Q → gNil vs σ H Q := fun vs σ H Q ⟨A, ρ, xs, ρ', S, r, e, P⟩ => by
  cases xs with
  | nil =>
    cases r
    simp only [asgTs] at e
    cases e
    exact ⟨rfl, P σ H S Es.refl (fun _ _ => rfl) fun _ h => h⟩
  | cons x xs => simp [asgTs] at e
theorem g_cons {a r : Tg} : ∀ vs σ H Q, tGs K Z (.cons a r) vs σ H Q → gCons (tG K Z a) (tGs K Z r) vs σ H Q := fun vs σ H Q ⟨A, ρ, xs, ρ', S, rs, e, P⟩ => by
  cases xs with
  | nil => simp [asgTs] at e
  | cons x xs =>
    cases rs with
    | cons r0 rs =>
      rename_i v1 vs1
      simp only [asgTs] at e
      cases q : asgT a x ρ with
      | none => rw [q] at e; cases e
      | some ρ1 =>
        rw [q] at e
        have e' : asgTs r xs ρ1 = some ρ' := e
        refine ⟨_, _, rfl, A, ρ, x, ρ1, S, r0, q, fun σ1 H1 S1 E1 n1 m1 => ?_⟩
        refine ⟨A, ρ1, xs, ρ', S1, RepAs.mono E1.fr rs, e', fun σ2 H2 S2 E2 n2 m2 => ?_⟩
        refine P σ2 H2 S2 ⟨E1.fr.trans E2.fr, fun b o h n => E2.keep b o (E1.keep b o h n) fun z => n (m1 b z)⟩ (fun i hi => ?_) fun b h => m1 b (m2 b h)
        simp only [tgN, List.mem_append, not_or] at hi
        rw [n2 i hi.2, n1 i hi.1]
theorem g_tup {ts : Tg} {n : Nat} (hn : ∀ xs ρ ρ', asgTs ts xs ρ = some ρ' → xs.length = n) : ∀ v σ H Q, tG K Z (.tup ts) v σ H Q → gTup K n (tGs K Z ts) v σ H Q := fun v σ H Q ⟨A, ρ, x, ρ', S, r, e, P⟩ => by
  cases x with
  | tup xs =>
    simp only [asgT] at e
    obtain ⟨a, vs, rfl, h1, r1⟩ := r.rdT
    exact ⟨a, vs, rfl, h1, by rw [r1.length]; exact hn _ _ _ e, A, ρ, xs, ρ', S, r1, e, P⟩
  | _ => simp [asgT] at e
def tgLen : Tg → Nat
  | .cons _ r => tgLen r + 1
  | _ => 0
theorem asgTs_len : ∀ (ts : Tg) (xs : List D) (ρ ρ' : Env), asgTs ts xs ρ = some ρ' → xs.length = tgLen ts
  | .nil, [], _, _, _ => rfl
  | .nil, _ :: _, _, _, h => by simp [asgTs] at h
  | .cons a r, [], _, _, h => by simp [asgTs] at h
  | .cons a r, x :: xs, ρ, ρ', h => by
    simp only [asgTs] at h
    cases q : asgT a x ρ with
    | none => rw [q] at h; cases h
    | some ρ1 =>
      rw [q] at h
      have z := asgTs_len r xs ρ1 ρ' h
      simp only [List.length_cons, tgLen, z]
  | .name _, xs, _, _, h => by cases xs <;> simp [asgTs] at h
  | .ixL _ _, xs, _, _, h => by cases xs <;> simp [asgTs] at h
  | .ixV _ _, xs, _, _, h => by cases xs <;> simp [asgTs] at h
  | .tup _, xs, _, _, h => by cases xs <;> simp [asgTs] at h
end
/-! ### what is walked -/
section
variable {K : PySem.W.Frag}
/-- an iterator over data -/
def ItR (K : PySem.W.Frag) (J : It) (A : Ow) (H : Hp) (ds : List D) : Prop := ∀ A1 H1, Fr A H A1 H1 → (∀ a, A1 a → H1 a ≠ none) → ∀ i,
  (∀ d, ds[i]? = some d → J.go i H1 ∧ ∀ x H2, J.yld i H1 x H2 → Ext H1 H2 ∧ RepA K A1 H2 x d) ∧ (ds.length ≤ i → J.stop i H1)
theorem ItR.move {J : It} {A A' : Ow} {H H' : Hp} {ds : List D} (h : ItR K J A H ds) (f : Fr A H A' H') : ItR K J A' H' ds := fun A1 H1 g dm i => h A1 H1 (f.trans g) dm i
def tI (G : Gd) (Z : Act) (W : WX) (f : Env → Rs (List D × Env)) : TI := fun σ H R => ∃ A ρ, SR G.K Z A σ H ρ ∧ Out G Z W σ A H (f ρ) fun r => ∀ J A' H', SR G.K Z A' σ H' r.2 → Ev σ ρ A H r.2 A' H' → ItR G.K J A' H' r.1 → R J H'
theorem itr_lst {A : Ow} {H : Hp} {a : Addr} {xs : List V} {ds : List D} (h : H a = some (.lst xs)) (n : ¬ A a) (r : RepAs K A H xs ds) : ItR K (Itl K a) A H ds := by
  intro A1 H1 f dm i
  have h1 : SqL K H1 a xs := .inl (.inl (f a _ h n).1)
  refine ⟨fun d hd => ?_, fun hl => ⟨xs, h1, by rw [r.length]; exact hl⟩⟩
  obtain ⟨v, e1, e2⟩ := r.get hd
  refine ⟨⟨xs, v, h1, e1⟩, fun x H2 y => ?_⟩
  obtain ⟨rfl, y⟩ := y
  have z := y xs h1
  rw [e1] at z
  cases z
  exact ⟨Ext.refl, RepA.mono f e2⟩
theorem rdL_stay {A A1 : Ow} {H H1 : Hp} {a : Addr} {xs : List V} (h : Rd H a (.lst xs)) (n : ¬ A a) (f : Fr A H A1 H1) : SqL K H1 a xs := .inl (f.rd h n).1
theorem itr_tup {A : Ow} {H : Hp} {v : V} {ds : List D} (r : RepA K A H v (.tup ds)) : ∃ a xs, v = .ref a ∧ SqT K H a xs ∧ ItR K (Itt K a) A H ds := by
  have core : ∀ (a : Addr) (xs : List V), (∀ A1 H1, Fr A H A1 H1 → SqT K H1 a xs) → RepAs K A H xs ds → ItR K (Itt K a) A H ds := fun a xs hs rs A1 H1 f dm i => by
    have h1 := hs A1 H1 f
    refine ⟨fun d hd => ?_, fun hl => ⟨xs, h1, by rw [rs.length]; exact hl⟩⟩
    obtain ⟨v, e1, e2⟩ := rs.get hd
    refine ⟨⟨xs, v, h1, e1⟩, fun x H2 y => ?_⟩
    obtain ⟨rfl, y⟩ := y
    have z := y xs h1
    rw [e1] at z
    cases z
    exact ⟨Ext.refl, RepA.mono f e2⟩
  cases r with
  | tup h n rs => exact ⟨_, _, rfl, .inl h, core _ _ (fun A1 H1 f => .inl (f.rd h n).1) rs⟩
  | tupK h rs => exact ⟨_, _, rfl, .inr h, core _ _ (fun A1 H1 f => .inr h) rs⟩
theorem itr_rng {A : Ow} {H : Hp} {lo hi : Int} : ItR K (Itr lo (hi - lo).toNat) A H (rangeD lo hi) := by
  intro A1 H1 f dm i
  unfold rangeD
  refine ⟨fun d hd => ?_, fun hl => (show (hi - lo).toNat ≤ i by rw [List.length_map, List.length_range] at hl; exact hl)⟩
  rw [List.getElem?_map] at hd
  by_cases hi : i < (hi - lo).toNat
  · rw [List.getElem?_range hi] at hd
    cases hd
    refine ⟨hi, fun x H2 y => ?_⟩
    obtain ⟨rfl, rfl⟩ := y
    exact ⟨Ext.refl, .int _⟩
  · rw [List.getElem?_eq_none (by simpa using Nat.le_of_not_lt hi)] at hd
    cases hd
end
section
variable {G : Gd} {Z : Act} {W : WX} {C : Ctx}
/-- a list or a tuple -/
theorem i_walk {a : Ex} : ∀ σ H R, tI G Z W (evI C (.walk a)) σ H R → (fun σ H R => iList G.K (tE G Z W (evE C a)) σ H R ∨ True) σ H R := fun _ _ _ _ => .inr trivial
def iWalk (K : PySem.W.Frag) (tl : TE) : TI := fun σ H R => tl σ H fun x H1 => ∃ a, x = .ref a ∧ ((∃ xs, SqL K H1 a xs) ∧ R (Itl K a) H1 ∨ (∃ xs, SqT K H1 a xs) ∧ R (Itt K a) H1)
theorem pi_walk {X : Cx} {tg l : Expr} {tl : TE} (hl : PE X l tl) : PI X tg l (iWalk X.K tl) := by
  refine ⟨fun pins s σ H R I h => ?_⟩
  refine thn (hl.run pins s σ H _ I h) fun v s1 ⟨x, H1, I1, r1, q1⟩ => ?_
  obtain ⟨a, e, q⟩ := q1
  subst e
  cases r1
  rcases q with ⟨⟨xs, hq⟩, q⟩ | ⟨⟨xs, hq⟩, q⟩
  · obtain ⟨its, rv, p, hz⟩ := I1.list hq
    refine wpAny_pyIter_list p.isList ⟨s1.heap.objs.size, [s1.heap.objs.size], _, _, H1, rfl, I1.kept (t' := s1.toks) fun b o e => Heap.get?_push_of_some _ e, turn_list a _, ⟨_, Heap.get?_push_size _ rfl, rfl, rfl⟩, fun b hb => ?_, q⟩
    rw [List.mem_singleton] at hb
    subst hb
    exact I1.fpOk (Nat.le_refl _) (I1.hok.fresh (Nat.le_refl _))
  · obtain ⟨its, rv, p, hz⟩ := I1.tuple hq
    refine wpAny_pyIter_tuple (show s1.heap.IsTuple a its.toArray from p) ⟨s1.heap.objs.size, [s1.heap.objs.size], _, _, H1, rfl, I1.kept (t' := s1.toks) fun b o e => Heap.get?_push_of_some _ e, turn_tuple a _, ⟨_, Heap.get?_push_size _ rfl, rfl, rfl⟩, fun b hb => ?_, q⟩
    rw [List.mem_singleton] at hb
    subst hb
    exact I1.fpOk (Nat.le_refl _) (I1.hok.fresh (Nat.le_refl _))
theorem i_seq {a : Ex} : ∀ σ H R, tI G Z W (evI C (.walk a)) σ H R → iWalk G.K (tE G Z W (evE C a)) σ H R := fun σ H R ⟨A, ρ, S, N⟩ => by
  simp only [evI] at N
  refine ⟨A, ρ, S, N.bind.mono fun x e N1 => fun v A1 H1 S1 E1 R1 F1 => ?_⟩
  obtain ⟨y, e2, N2⟩ := N1.ofO
  obtain ⟨xs, e3, N3⟩ := N2.ofO
  obtain ⟨y1, ρ1⟩ := y
  obtain ⟨A2, S2, E2, R2⟩ := R1.tk S1 E1 F1 S.hs.dom e2
  cases y1 with
  | lst ds =>
    simp only [items] at e3
    cases e3
    cases R2 with
    | lst h n rs => exact ⟨_, rfl, .inl ⟨⟨_, .inl (.inl h)⟩, N3.ok _ A2 H1 S2 E2 (itr_lst h n rs)⟩⟩
  | tup ds =>
    simp only [items] at e3
    cases e3
    obtain ⟨a, vs, rfl, h1, h2⟩ := itr_tup R2
    exact ⟨a, rfl, .inr ⟨⟨_, h1⟩, N3.ok _ A2 H1 S2 E2 h2⟩⟩
  | _ => simp [items] at e3
theorem i_rng1 {a : Ex} : ∀ σ H R, tI G Z W (evI C (.rng1 a)) σ H R → iRng1 (tCons (tE G Z W (evE C a)) tNil) σ H R := fun σ H R ⟨A, ρ, S, N⟩ => by
  simp only [evI] at N
  refine ⟨A, ρ, S, N.bind.mono fun x e N1 => fun v A1 H1 S1 E1 R1 F1 => ?_⟩
  obtain ⟨i, e2, N2⟩ := N1.ofO
  have z := opInt_some R1 e2
  subst z
  split at N2
  · rename_i h
    simp only [rngOk, Bool.and_eq_true, decide_eq_true_eq] at h
    refine ⟨i, rfl, h.1.2, h.2, ?_⟩
    have q := N2.ok (Itr 0 (i - 0).toNat) A1 H1 S1 E1 itr_rng
    rw [Int.sub_zero] at q
    exact q
  · exact N2.elim
theorem i_rng2 {a b : Ex} : ∀ σ H R, tI G Z W (evI C (.rng2 a b)) σ H R → iRng2 (tCons (tE G Z W (evE C a)) (tCons (tE G Z W (evE C b)) tNil)) σ H R := fun σ H R ⟨A, ρ, S, N⟩ => by
  simp only [evI] at N
  refine ⟨A, ρ, S, N.bind.mono fun x e N1 => fun v A1 H1 S1 E1 R1 F1 => ?_⟩
  obtain ⟨i, e2, N2⟩ := N1.ofO
  have z := opInt_some R1 e2
  subst z
  refine ⟨A1, x.2, S1, (Out.move E1.fr N2.bind).mono fun y e3 N3 => fun u A2 H2 S2 E2 R2 F2 => ?_⟩
  obtain ⟨j, e4, N4⟩ := N3.ofO
  have z := opInt_some R2 e4
  subst z
  split at N4
  · rename_i h
    simp only [rngOk, Bool.and_eq_true, decide_eq_true_eq] at h
    exact ⟨i, j, rfl, ⟨h.1.1.1, h.1.1.2, h.1.2, h.2⟩, N4.ok _ A2 H2 S2 (E1.trans E2) itr_rng⟩
  · exact N4.elim
end
end MP
/-! MH: statements. Own work. -/
namespace MP
open PySem
open PySem.Spec
open PyProof.Rows
open L2
section
variable {G : Gd} {Z : Act} {W : WX} {C : Ctx} {D : Ends}
def OutF (G : Gd) (Z : Act) (D : Ends) (A : Ow) (H : Hp) (q : Fl × Env) : Prop := match q.1 with
  | .nx => ∀ σ' A' H', SR G.K Z A' σ' H' q.2 → Fr A H A' H' → D.nx σ' H'
  | .bk => ∀ σ' A' H', SR G.K Z A' σ' H' q.2 → Fr A H A' H' → D.bk σ' H'
  | .ct => ∀ σ' A' H', SR G.K Z A' σ' H' q.2 → Fr A H A' H' → D.ct σ' H'
  | .rt o => ∀ v σ' A' H', SR G.K Z A' σ' H' q.2 → Fr A H A' H' → OpV G.K Z σ' q.2 A' H' v o → D.rt v H'
def OutS (G : Gd) (Z : Act) (W : WX) (D : Ends) (A : Ow) (H : Hp) (r : Rs (Fl × Env)) : Prop := match r with
  | .st => False
  | .ex c x => ∀ cls d σ' A' H', Fr A H A' H' → Hs Z A' H' → ExR G A' H' cls d c x → W cls d σ' H'
  | .ok q => OutF G Z D A H q
def tS (G : Gd) (Z : Act) (W : WX) (f : Env → Rs (Fl × Env)) : TS := fun D σ H => ∃ A ρ, SR G.K Z A σ H ρ ∧ OutS G Z W D A H (f ρ)
theorem OutF.move {A A1 : Ow} {H H1 : Hp} {q : Fl × Env} (f : Fr A H A1 H1) (h : OutF G Z D A H q) : OutF G Z D A1 H1 q := by
  obtain ⟨fl, ρ'⟩ := q
  cases fl with
  | nx => exact fun σ' A' H' S g => h σ' A' H' S (f.trans g)
  | bk => exact fun σ' A' H' S g => h σ' A' H' S (f.trans g)
  | ct => exact fun σ' A' H' S g => h σ' A' H' S (f.trans g)
  | rt o => exact fun v σ' A' H' S g => h v σ' A' H' S (f.trans g)
theorem OutS.move {A A1 : Ow} {H H1 : Hp} {r : Rs (Fl × Env)} (f : Fr A H A1 H1) (h : OutS G Z W D A H r) : OutS G Z W D A1 H1 r := by
  cases r with
  | st => exact h
  | ex c x => exact fun cls d σ' A' H' g => h cls d σ' A' H' (f.trans g)
  | ok q => exact OutF.move f h
/-- an expression ahead -/
theorem OutS.bindE {β : Type} {A : Ow} {H : Hp} {σ : L2.St} {r : Rs β} {g : β → Rs (Fl × Env)} (h : OutS G Z W D A H (r.bind g)) : Out G Z W σ A H r fun b => OutS G Z W D A H (g b) := by
  cases r with
  | st => exact h
  | ex c x => exact fun cls d A' H' f hs e => h cls d σ A' H' f hs e
  | ok b => exact h
theorem OutS.ofO {β : Type} {A : Ow} {H : Hp} {o : Option β} {g : β → Rs (Fl × Env)} (h : OutS G Z W D A H ((ofO o).bind g)) : ∃ b, o = some b ∧ OutS G Z W D A H (g b) := by
  cases o with
  | none => exact h.elim
  | some b => exact ⟨b, rfl, h⟩
/-- a statement ahead -/
theorem OutS.seq {A : Ow} {H : Hp} {r : Rs (Fl × Env)} {g : Env → Rs (Fl × Env)} (h : OutS G Z W D A H (r.bind fun q => match q.1 with
    | .nx => g q.2
    | f => .ok (f, q.2))) : OutS G Z W { D with nx := tS G Z W g D } A H r := by
  cases r with
  | st => exact h
  | ex c x => exact h
  | ok q =>
    obtain ⟨fl, ρ'⟩ := q
    cases fl with
    | nx => exact fun σ' A' H' S f => ⟨A', ρ', S, OutS.move f h⟩
    | bk => exact h
    | ct => exact h
    | rt o => exact h
theorem s_skip : ∀ D σ H, tS G Z W (exC C .skip) D σ H → tNext D σ H := fun D σ H ⟨A, ρ, S, N⟩ => by
  simp only [exC] at N
  exact N σ A H S Fr.refl
theorem s_seq {a b : Cm} : ∀ D σ H, tS G Z W (exC C (.seq a b)) D σ H → tSeq (tS G Z W (exC C a)) (tS G Z W (exC C b)) D σ H := fun D σ H ⟨A, ρ, S, N⟩ => by
  simp only [exC] at N
  exact ⟨A, ρ, S, OutS.seq N⟩
theorem s_brk : ∀ D σ H, tS G Z W (exC C .brk) D σ H → tBreak D σ H := fun D σ H ⟨A, ρ, S, N⟩ => by
  simp only [exC] at N
  exact N σ A H S Fr.refl
theorem s_cnt : ∀ D σ H, tS G Z W (exC C .cnt) D σ H → tCont D σ H := fun D σ H ⟨A, ρ, S, N⟩ => by
  simp only [exC] at N
  exact N σ A H S Fr.refl
theorem s_none : ∀ D σ H, tS G Z W (exC C .none) D σ H → tNever D σ H := fun D σ H ⟨A, ρ, S, N⟩ => by
  simp only [exC] at N
  exact N
theorem s_expr {e : Ex} : ∀ D σ H, tS G Z W (exC C (.expr e)) D σ H → tDrop (tE G Z W (evE C e)) D σ H := fun D σ H ⟨A, ρ, S, N⟩ => by
  simp only [exC] at N
  refine ⟨A, ρ, S, (OutS.bindE N).mono fun x e N1 => fun v A1 H1 S1 E1 R1 F1 => ?_⟩
  exact (show OutF G Z D A H (.nx, x.2) from N1) σ A1 H1 S1 E1.fr
theorem s_iff {t : Ex} {a b : Cm} : ∀ D σ H, tS G Z W (exC C (.iff t a b)) D σ H → tIfS (tB' G Z W (evT C t)) (tS G Z W (exC C a)) (tS G Z W (exC C b)) D σ H := fun D σ H ⟨A, ρ, S, N⟩ => by
  simp only [exC] at N
  refine ⟨A, ρ, S, (OutS.bindE N).mono fun x e N1 => fun A1 H1 S1 E1 => ?_⟩
  obtain ⟨k, ρ1⟩ := x
  cases k with
  | true => exact ⟨A1, ρ1, S1, OutS.move E1.fr N1⟩
  | false => exact ⟨A1, ρ1, S1, OutS.move E1.fr N1⟩
theorem s_retN : ∀ D σ H, tS G Z W (exC C .retN) D σ H → tRetN D σ H := fun D σ H ⟨A, ρ, S, N⟩ => by
  simp only [exC] at N
  exact (show OutF G Z D A H (.rt (.d .non), ρ) from N) .non σ A H S Fr.refl .non
theorem own_unset {σ : L2.St} {ρ : Env} {i : Nat} {a : Addr} (h : Own σ (ρ.set i .un) a) : Own σ ρ a ∧ ∃ j p xs, j ≠ i ∧ ρ.at j = .ol p xs ∧ σ[j]? = some (some (.ref a)) := by
  obtain ⟨j, p, xs, h1, h2⟩ := h
  by_cases e : i = j
  · subst e
    by_cases hi : i < ρ.length
    · rw [at_set_eq hi] at h1; cases h1
    · rw [set_ge hi] at h1
      rw [at_none hi] at h1; cases h1
  · rw [at_set_ne e] at h1
    exact ⟨⟨j, p, xs, h1, h2⟩, j, p, xs, fun z => e z.symm, h1, h2⟩
theorem SR.unset {A : Ow} {σ : L2.St} {H : Hp} {ρ : Env} (S : SR G.K Z A σ H ρ) (i : Nat) : SR G.K Z A σ H (ρ.set i .un) := by
  refine ⟨S.hs, by rw [List.length_set]; exact S.len, fun j hj => ?_, fun j k a p q xs ys hjk hj hk h1 h2 => ?_⟩
  · by_cases e : i = j
    · subst e
      rw [at_set_eq (by rw [S.len]; exact hj)]
      trivial
    · rw [at_set_ne e]; exact S.sl j hj
  · obtain ⟨_, j', p', xs', n1, z1, z2⟩ := own_unset ⟨j, p, xs, hj, h1⟩
    have ej : i ≠ j := fun e => by
      subst e
      by_cases hi : i < ρ.length
      · rw [at_set_eq hi] at hj; cases hj
      · rw [set_ge hi, at_none hi] at hj; cases hj
    have ek : i ≠ k := fun e => by
      subst e
      by_cases hi : i < ρ.length
      · rw [at_set_eq hi] at hk; cases hk
      · rw [set_ge hi, at_none hi] at hk; cases hk
    rw [at_set_ne ej] at hj
    rw [at_set_ne ek] at hk
    exact S.inj j k a p q xs ys hjk hj hk h1 h2
theorem s_ret {e : Ex} : ∀ D σ H, tS G Z W (exC C (.ret e)) D σ H → tRet (tE G Z W (evE C e)) D σ H := fun D σ H ⟨A, ρ, S, N⟩ => by
  simp only [exC] at N
  refine ⟨A, ρ, S, (OutS.bindE N).mono fun x e N1 => fun v A1 H1 S1 E1 R1 F1 => ?_⟩
  obtain ⟨o, ρ1⟩ := x
  cases o with
  | d y => exact (show OutF G Z D A H (.rt (.d y), ρ1) from N1) v σ A1 H1 S1 E1.fr R1
  | nw xs => exact (show OutF G Z D A H (.rt (.nw xs), ρ1) from N1) v σ A1 H1 S1 E1.fr R1
  | rf i =>
    dsimp only at N1 S1 E1 R1
    cases q : ρ1.at i with
    | un => exact absurd q R1.2
    | d y =>
      rw [q] at N1
      obtain ⟨u, e1, e2⟩ := S1.data q
      rw [R1.1] at e1
      cases e1
      exact (show OutF G Z D A H (.rt (.d y), ρ1) from N1) v σ A1 H1 S1 E1.fr e2
    | ol p xs =>
      rw [q] at N1
      cases p with
      | true => exact N1.elim
      | false =>
        obtain ⟨a, vs, e1, r1, r2, r3, r4, r5⟩ := S1.olist q
        rw [R1.1] at e1
        cases e1
        refine (show OutF G Z D A H (.rt (.nw xs), ρ1.set i .un) from N1) (.ref a) σ A1 H1 (S1.unset i) E1.fr ⟨a, vs, rfl, r1, fun w => ?_, r2, r3, r4⟩
        obtain ⟨_, j, p', xs', n1, z1, z2⟩ := own_unset w
        exact S1.inj j i a _ _ _ _ n1 z1 q z2 R1.1
theorem isOl_some {s : Sl} {u : Unit} (h : isOl s = some u) : ∃ p xs, s = .ol p xs := by
  cases s with
  | ol p xs => exact ⟨p, xs, rfl⟩
  | _ => cases h
/-! ### stores -/
theorem own_put {σ : L2.St} {ρ : Env} {i : Nat} {p : Addr} {xs : List MP.D} {b : Addr} (h : Own (σ.set i (some (.ref p))) (ρ.set i (.ol false xs)) b) : Own σ ρ b ∨ b = p := by
  obtain ⟨j, q, ys, h1, h2⟩ := h
  by_cases e : i = j
  · subst e
    by_cases hi : i < σ.length
    · rw [List.getElem?_set_self hi] at h2
      cases h2
      exact .inr rfl
    · rw [List.getElem?_eq_none (by rw [List.length_set]; omega)] at h2
      cases h2
  · rw [at_set_ne e] at h1
    rw [List.getElem?_set_ne e] at h2
    exact .inl ⟨j, q, ys, h1, h2⟩
/-- an operand at a name -/
theorem put_go {σ : L2.St} {ρ ρ' : Env} {A : Ow} {H : Hp} {v : V} {o : Op} {i : Nat} (S : SR G.K Z A σ H ρ) (r : OpV G.K Z σ ρ A H v o) (e : put i o ρ = some ρ') :
    ∃ A', SR G.K Z A' (σ.set i (some v)) H ρ' ∧ Fr A H A' H ∧ (∀ b, Own (σ.set i (some v)) ρ' b → Own σ ρ b ∨ (v = .ref b ∧ ∃ xs, o = .nw xs)) ∧ (∀ xs, o = .nw xs → A' = A) ∧ (∀ x, o = .d x → A' = A) := by
  cases o with
  | d x =>
    simp only [put] at e
    cases e
    exact ⟨A, S.storeD r, Fr.refl, fun b h => .inl (own_storeD S.len h), fun _ _ => rfl, fun _ _ => rfl⟩
  | nw xs =>
    simp only [put] at e
    cases e
    obtain ⟨p, vs, rfl, r1, r2, r3, r4, r5⟩ := r
    refine ⟨A, S.store ⟨p, vs, rfl, r1, r3, r4, r5⟩ (fun q ys a h1 h2 => ?_), Fr.refl, fun b h => ?_, fun _ _ => rfl, fun _ _ => rfl⟩
    · cases h2; exact r2
    · rcases own_put h with z | z
      · exact .inl z
      · exact .inr ⟨by rw [z], xs, rfl⟩
  | rf j =>
    simp only [put] at e
    cases q : MP.tk ρ (.rf j) with
    | none => rw [q] at e; cases e
    | some y =>
      rw [q] at e
      cases e
      obtain ⟨y1, ρ1⟩ := y
      obtain ⟨A', S', E', R'⟩ := OpV.tk r S Ev.refl trivial S.hs.dom q
      exact ⟨A', S'.storeD R', E'.fr, fun b h => .inl (E'.mono b (own_storeD S'.len h)), (fun _ z => by cases z), fun _ z => by cases z⟩
theorem s_asgN {e : Ex} {i : Nat} : ∀ D σ H, tS G Z W (exC C (.asg (.name i) e)) D σ H → tAsg (tE G Z W (evE C e)) (gName i) D σ H := fun D σ H ⟨A, ρ, S, N⟩ => by
  simp only [exC] at N
  refine ⟨A, ρ, S, (OutS.bindE N).mono fun x e N1 => fun v A1 H1 S1 E1 R1 F1 => ?_⟩
  obtain ⟨ρ', e2, N2⟩ := OutS.ofO N1
  obtain ⟨A2, S2, f2, _⟩ := put_go S1 R1 e2
  exact (show OutF G Z D A H (.nx, ρ') from N2) _ A2 H1 S2 (E1.fr.trans f2)
theorem s_asgT {e : Ex} {t : Tg} (hn : ∀ i, t ≠ .name i) : ∀ D σ H, tS G Z W (exC C (.asg t e)) D σ H → tAsg (tE G Z W (evE C e)) (tG G.K Z t) D σ H := fun D σ H ⟨A, ρ, S, N⟩ => by
  have N' : OutS G Z W D A H ((evE C e ρ).bind fun x => (ofO (tk x.2 x.1)).bind fun y => (ofO (asgT t y.1 y.2)).bind fun ρ' => .ok (.nx, ρ')) := by
    simp only [exC] at N
    cases t with
    | name i => exact absurd rfl (hn i)
    | _ => exact N
  refine ⟨A, ρ, S, (OutS.bindE N').mono fun x e N1 => fun v A1 H1 S1 E1 R1 F1 => ?_⟩
  obtain ⟨y, e2, N2⟩ := OutS.ofO N1
  obtain ⟨ρ', e3, N3⟩ := OutS.ofO N2
  obtain ⟨y1, ρ1⟩ := y
  obtain ⟨A2, S2, E2, R2⟩ := R1.tk S1 E1 F1 S.hs.dom e2
  refine ⟨A2, ρ1, y1, ρ', S2, R2, e3, fun σ' H' S' E' _ _ => ?_⟩
  exact (show OutF G Z D A H (.nx, ρ') from N3) σ' A2 H' S' (E2.fr.trans E'.fr)
theorem s_setIx {i : Nat} {k e : Ex} : ∀ D σ H, tS G Z W (exC C (.setIx i k e)) D σ H → tAsg (tE G Z W (evE C e)) (gSub (tVar i) (tE G Z W (evE C k)) rSetL) D σ H := fun D σ H ⟨A, ρ, S, N⟩ => by
  simp only [exC] at N
  refine ⟨A, ρ, S, (OutS.bindE N).mono fun x e N1 => fun v A1 H1 S1 E1 R1 F1 => ?_⟩
  obtain ⟨y, e2, N2⟩ := OutS.ofO N1
  obtain ⟨y1, ρ1⟩ := y
  obtain ⟨A2, S2, E2, R2⟩ := R1.tk S1 E1 F1 S.hs.dom e2
  obtain ⟨_, e7, N7⟩ := OutS.ofO N2
  obtain ⟨p, xs, q⟩ := isOl_some e7
  obtain ⟨a, vs, hu, _⟩ := S2.olist q
  refine ⟨.ref a, hu, A2, ρ1, S2, (OutS.bindE (OutS.move E2.fr N7)).mono fun z e4 N4 => fun w A3 H3 S3 E3 R3 F3 => ?_⟩
  obtain ⟨k', e5, N5⟩ := OutS.ofO N4
  obtain ⟨ρ', e6, N6⟩ := OutS.ofO N5
  have ek := opInt_some R3 e5
  subst ek
  obtain ⟨y, h1, h2⟩ := set_go S3 (RepA.mono E3.fr R2) e6 (Q := fun H' => D.nx σ H') fun H' S' E' _ => (show OutF G Z D A2 H1 (.nx, ρ') from N6) σ A3 H' S' (E3.fr.trans E'.fr)
  rw [hu] at h1
  cases h1
  exact h2
/-! ### several names at once -/
def Ops (K : PySem.W.Frag) (Z : Act) (σ : L2.St) (ρ : Env) (A : Ow) (H : Hp) : List V → List Op → Prop
  | [], [] => True
  | v :: vs, o :: os => OpV K Z σ ρ A H v o ∧ (∀ i, o ≠ .rf i) ∧ (∀ xs, o = .nw xs → ∀ p, v = .ref p → ∀ (j : Nat) ys, os[j]? = some (.nw ys) → vs[j]? ≠ some (.ref p)) ∧ Ops K Z σ ρ A H vs os
  | _, _ => False
def tOs (G : Gd) (Z : Act) (W : WX) (f : Env → Rs (List Op × Env)) : TA := fun σ H Q => ∃ A ρ, SR G.K Z A σ H ρ ∧ Out G Z W σ A H (f ρ) fun r => ∀ vs A' H', SR G.K Z A' σ H' r.2 → Ev σ ρ A H r.2 A' H' → Ops G.K Z σ r.2 A' H' vs r.1 →
  (∀ (j : Nat) ys p, r.1[j]? = some (.nw ys) → vs[j]? = some (.ref p) → H p = none) → Q vs H'
theorem Ops.step {σ : L2.St} {ρ ρ' : Env} {A A' : Ow} {H H' : Hp} (E : Ev σ ρ A H ρ' A' H') : ∀ {vs : List V} {os : List Op}, Ops G.K Z σ ρ A H vs os → Ops G.K Z σ ρ' A' H' vs os
  | [], [], _ => trivial
  | v :: vs, o :: os, h => ⟨h.1.step E, h.2.1, h.2.2.1, Ops.step E h.2.2.2⟩
  | [], _ :: _, h => h.elim
  | _ :: _, [], h => h.elim
theorem o_nil : ∀ σ H Q, tOs G Z W (evO C .nil) σ H Q → tNil σ H Q := fun σ H Q ⟨A, ρ, S, N⟩ => by
  simp only [evO] at N
  exact N.ok [] A H S Ev.refl trivial fun j ys p h => by simp at h
theorem o_cons {a r : Ex} : ∀ σ H Q, tOs G Z W (evO C (.cons a r)) σ H Q → tCons (tE G Z W (evE C a)) (tOs G Z W (evO C r)) σ H Q := fun σ H Q ⟨A, ρ, S, N⟩ => by
  simp only [evO] at N
  refine ⟨A, ρ, S, N.bind.mono fun x e N1 => fun v A1 H1 S1 E1 R1 F1 => ?_⟩
  obtain ⟨o, ρ1⟩ := x
  -- data ahead
  have dat : ∀ o', o' = o → (∀ xs, o ≠ .nw xs) → Out G Z W σ A H ((ofO (tk ρ1 o')).bind fun y => (evO C r y.2).bind fun z => .ok (.d y.1 :: z.1, z.2)) (fun r => ∀ vs A' H', SR G.K Z A' σ H' r.2 → Ev σ ρ A H r.2 A' H' → Ops G.K Z σ r.2 A' H' vs r.1 →
      (∀ (j : Nat) ys p, r.1[j]? = some (.nw ys) → vs[j]? = some (.ref p) → H p = none) → Q vs H') → tOs G Z W (evO C r) σ H1 fun xs H2 => Q (v :: xs) H2 := fun o' eo hn N2 => by
    subst eo
    obtain ⟨y, e2, N3⟩ := N2.ofO
    obtain ⟨y1, ρ2⟩ := y
    obtain ⟨A2, S2, E2, R2⟩ := R1.tk S1 E1 F1 S.hs.dom e2
    refine ⟨A2, ρ2, S2, (Out.move E2.fr N3).bind.mono fun z e3 N4 => fun vs A3 H3 S3 E3 R3 F3 => ?_⟩
    refine N4.ok (v :: vs) A3 H3 S3 (E2.trans E3) ⟨RepA.mono E3.fr R2, (fun i q => nomatch q), (fun xs q => nomatch q), R3⟩ fun j ys p h1 h2 => ?_
    cases j with
    | zero => simp at h1
    | succ j =>
      have q := F3 j ys p (by simpa using h1) (by simpa using h2)
      cases w : H p with
      | none => rfl
      | some u => exact absurd q (E1.dom p (by rw [w]; exact fun q => nomatch q))
  cases o with
  | d y => exact dat _ rfl (fun xs q => nomatch q) N1
  | rf i => exact dat _ rfl (fun xs q => nomatch q) N1
  | nw xs =>
    refine ⟨A1, ρ1, S1, (Out.move E1.fr N1.bind).mono fun z e3 N4 => fun vs A3 H3 S3 E3 R3 F3 => ?_⟩
    refine N4.ok (v :: vs) A3 H3 S3 (E1.trans E3) ⟨R1.step E3, (fun i q => nomatch q), fun xs' q p hp j ys h1 h2 => ?_, R3⟩ fun j ys p h1 h2 => ?_
    · obtain ⟨p', vs', ep, r1, r2, r3, _⟩ := R1
      have q2 := F3 j ys p h1 h2
      rw [hp] at ep
      cases ep
      rw [q2] at r3
      cases r3
    · cases j with
      | zero =>
        obtain ⟨p', ep, q⟩ := F1
        simp only [List.getElem?_cons_zero] at h2
        rw [Option.some.inj h2] at ep
        cases ep
        exact q
      | succ j =>
        have q := F3 j ys p (by simpa using h1) (by simpa using h2)
        cases w : H p with
        | none => rfl
        | some u => exact absurd q (E1.dom p (by rw [w]; exact fun q => nomatch q))
def setsV : List Nat → List V → L2.St → L2.St
  | i :: r, v :: vs, σ => setsV r vs (σ.set i (some v))
  | _, _, σ => σ
theorem puts_go : ∀ (is : List Nat) (vs : List V) (os : List Op) {σ : L2.St} {ρ ρ' : Env} {A : Ow} {H : Hp}, SR G.K Z A σ H ρ → Ops G.K Z σ ρ A H vs os → puts is os ρ = some ρ' → is.length = vs.length ∧ ∃ A', SR G.K Z A' (setsV is vs σ) H ρ' ∧ Fr A H A' H
  | [], [], [], σ, ρ, ρ', A, H, S, R, e => by
    simp only [puts] at e
    cases e
    exact ⟨rfl, A, S, Fr.refl⟩
  | i :: is, v :: vs, o :: os, σ, ρ, ρ', A, H, S, R, e => by
    simp only [puts] at e
    cases q : put i o ρ with
    | none => rw [q] at e; cases e
    | some ρ1 =>
      rw [q] at e
      obtain ⟨A1, S1, f1, m1, k1, k2⟩ := put_go S R.1 q
      have eA : A1 = A := by
        cases o with
        | d x => exact k2 x rfl
        | nw xs => exact k1 xs rfl
        | rf j => exact absurd rfl (R.2.1 j)
      subst eA
      have rest : ∀ (vs : List V) (os : List Op), Ops G.K Z σ ρ A1 H vs os → (∀ xs, o = .nw xs → ∀ p, v = .ref p → ∀ (j : Nat) ys, os[j]? = some (.nw ys) → vs[j]? ≠ some (.ref p)) → Ops G.K Z (σ.set i (some v)) ρ1 A1 H vs os := by
        intro vs
        induction vs with
        | nil => intro os h _; cases os with
          | nil => trivial
          | cons _ _ => exact h.elim
        | cons u us ih =>
          intro os h hd
          cases os with
          | nil => exact h.elim
          | cons w ws =>
            refine ⟨?_, h.2.1, h.2.2.1, ih ws h.2.2.2 fun xs hx p hp j ys h1 h2 => hd xs hx p hp (j + 1) ys (by simpa using h1) (by simpa using h2)⟩
            cases w with
            | d x => exact h.1
            | rf j => exact absurd rfl (h.2.1 j)
            | nw xs =>
              obtain ⟨p, ws', rfl, r1, r2, r3, r4, r5⟩ := h.1
              refine ⟨p, ws', rfl, r1, fun z => ?_, r3, r4, r5⟩
              rcases m1 p z with z | ⟨z1, ys, z2⟩
              · exact r2 z
              · exact hd ys z2 p z1 0 xs rfl rfl
      have R1 := rest vs os R.2.2.2 R.2.2.1
      obtain ⟨hl, A2, S2, f2⟩ := puts_go is vs os S1 R1 e
      exact ⟨congrArg Nat.succ hl, A2, S2, f1.trans f2⟩
  | [], v :: vs, os, _, _, _, _, _, _, R, e => by
    cases os with
    | nil => exact R.elim
    | cons o os => simp [puts] at e
  | [], [], o :: os, _, _, _, _, _, _, R, e => R.elim
  | i :: is, [], os, _, _, _, _, _, _, R, e => by
    cases os with
    | nil => simp [puts] at e
    | cons o os => exact R.elim
  | i :: is, v :: vs, [], _, _, _, _, _, _, R, e => R.elim
theorem s_par2 {i j : Nat} {es : Ex} : ∀ D σ H, tS G Z W (exC C (.par [i, j] es)) D σ H → tPar i j (tOs G Z W (evO C es)) D σ H := fun D σ H ⟨A, ρ, S, N⟩ => by
  simp only [exC] at N
  refine ⟨A, ρ, S, (OutS.bindE N).mono fun x e N1 => fun vs A1 H1 S1 E1 R1 F1 => ?_⟩
  obtain ⟨ρ', e2, N2⟩ := OutS.ofO N1
  obtain ⟨hl, A2, S2, f2⟩ := puts_go _ _ _ S1 R1 e2
  match vs, hl with
  | [v, w], _ => exact ⟨v, w, rfl, (show OutF G Z D A H (.nx, ρ') from N2) _ A2 H1 S2 (E1.fr.trans f2)⟩
theorem s_par3 {i j k : Nat} {es : Ex} : ∀ D σ H, tS G Z W (exC C (.par [i, j, k] es)) D σ H → tPar3 i j k (tOs G Z W (evO C es)) D σ H := fun D σ H ⟨A, ρ, S, N⟩ => by
  simp only [exC] at N
  refine ⟨A, ρ, S, (OutS.bindE N).mono fun x e N1 => fun vs A1 H1 S1 E1 R1 F1 => ?_⟩
  obtain ⟨ρ', e2, N2⟩ := OutS.ofO N1
  obtain ⟨hl, A2, S2, f2⟩ := puts_go _ _ _ S1 R1 e2
  match vs, hl with
  | [v, w, u], _ => exact ⟨v, w, u, rfl, (show OutF G Z D A H (.nx, ρ') from N2) _ A2 H1 S2 (E1.fr.trans f2)⟩
/-- by a tuple that is made and taken apart -/
def gNames : List Nat → TGs
  | [] => gNil
  | i :: r => gCons (gName i) (gNames r)
theorem gNames_go : ∀ (is : List Nat) (vs : List V) (σ : L2.St) (H : Hp) (Q : L2.St → Hp → Prop), is.length = vs.length → Q (setsV is vs σ) H → gNames is vs σ H Q
  | [], [], σ, H, Q, _, q => ⟨rfl, q⟩
  | i :: is, v :: vs, σ, H, Q, hl, q => ⟨v, vs, rfl, gNames_go is vs _ H Q (Nat.succ.inj hl) q⟩
  | [], _ :: _, _, _, _, h, _ => nomatch h
  | _ :: _, [], _, _, _, h, _ => nomatch h
theorem s_parT {is : List Nat} {es : Ex} : ∀ D σ H, tS G Z W (exC C (.par is es)) D σ H → is.length ≤ 1000 → tAsg (tTup (tOs G Z W (evO C es))) (gTup G.K is.length (gNames is)) D σ H := fun D σ H ⟨A, ρ, S, N⟩ hn => by
  simp only [exC] at N
  refine ⟨A, ρ, S, (OutS.bindE N).mono fun x e N1 => fun vs A1 H1 S1 E1 R1 F1 => ?_⟩
  obtain ⟨ρ', e2, N2⟩ := OutS.ofO N1
  obtain ⟨hl, _⟩ := puts_go _ _ _ S1 R1 e2
  refine ⟨by rw [← hl, sizeLine_eq]; omega, fun p hp => ?_⟩
  have g := Ext.new (o := HO.tup vs) hp
  have S2 := S1.grow g
  have E2 := E1.trans (Ev.grow g)
  obtain ⟨_, A3, S3, f3⟩ := puts_go _ _ _ S2 (Ops.step (Ev.grow g) R1) e2
  exact ⟨p, vs, rfl, .inl (.inl upd_same), hl.symm, gNames_go _ _ _ _ _ hl ((show OutF G Z D A H (.nx, ρ') from N2) _ A3 _ S3 (E2.fr.trans f3))⟩
/-! ### loops -/
theorem s_for {t : Tg} {it : Ex} {b : Cm} : ∀ D σ H, tS G Z W (exC C (.for_ t it b)) D σ H → tFor (tI G Z W (evI C it)) (tG G.K Z t) (tS G Z W (exC C b)) D σ H := fun D σ H ⟨A, ρ, S, N⟩ => by
  simp only [exC] at N
  refine ⟨A, ρ, S, (OutS.bindE N).mono fun x e N1 => fun J A1 H1 S1 E1 I1 => ?_⟩
  obtain ⟨ds, ρ1⟩ := x
  have N1' : OutS G Z W D A1 H1 (loopF (fun y ρ1 => (ofO (asgT t y ρ1)).bind fun ρ2 => exC C b ρ2) ds ρ1) := OutS.move E1.fr N1
  refine ⟨fun i m σ H => m = ds.length - i ∧ i ≤ ds.length ∧ ∃ A ρ, SR G.K Z A σ H ρ ∧ Fr A1 H1 A H ∧ OutS G Z W D A H (loopF (fun y ρ1 => (ofO (asgT t y ρ1)).bind fun ρ2 => exC C b ρ2) (ds.drop i) ρ), ⟨_, rfl, Nat.zero_le _, A1, ρ1, S1, Fr.refl, N1'⟩, ?_⟩
  rintro i m σ2 H2 ⟨rfl, hi, A2, ρ2, S2, f2, N2⟩
  by_cases hlt : i < ds.length
  · have hd : ds[i]? = some ds[i] := List.getElem?_eq_getElem hlt
    rw [List.drop_eq_getElem_cons hlt] at N2
    simp only [loopF] at N2
    obtain ⟨go, yl⟩ := (I1 A2 H2 f2 S2.hs.dom i).1 _ hd
    refine .inr ⟨go, fun σ' H' => ∃ A' ρ', SR G.K Z A' σ' H' ρ' ∧ Fr A1 H1 A' H' ∧ OutS G Z W D A' H' (loopF (fun y ρ1 => (ofO (asgT t y ρ1)).bind fun ρ2 => exC C b ρ2) (ds.drop (i + 1)) ρ'),
      fun σ' H' ⟨A', ρ', S', f', N'⟩ => ⟨ds.length - (i + 1), by omega, rfl, hlt, A', ρ', S', f', N'⟩, fun x H3 y => ?_⟩
    obtain ⟨ex, rx⟩ := yl x H3 y
    have S3 := S2.grow ex
    cases q : asgT t ds[i] ρ2 with
    | none => rw [q] at N2; exact N2.elim
    | some ρ3 =>
      rw [q] at N2
      have N3 : OutS G Z W D A2 H2 ((exC C b ρ3).bind fun q => match q.1 with
        | .nx => loopF (fun y ρ1 => (ofO (asgT t y ρ1)).bind fun ρ2 => exC C b ρ2) (ds.drop (i + 1)) q.2
        | .ct => loopF (fun y ρ1 => (ofO (asgT t y ρ1)).bind fun ρ2 => exC C b ρ2) (ds.drop (i + 1)) q.2
        | .bk => .ok (.nx, q.2)
        | .rt o => .ok (.rt o, q.2)) := N2
      refine ⟨A2, ρ2, ds[i], ρ3, S3, rx, q, fun σ4 H4 S4 E4 _ _ => ?_⟩
      have f4 : Fr A2 H2 A2 H4 := (Ext.fr ex).trans E4.fr
      refine ⟨A2, ρ3, S4, ?_⟩
      cases z : exC C b ρ3 with
      | st => rw [z] at N3; exact N3.elim
      | ex c x => rw [z] at N3; exact fun cls d σ' A' H' g => N3 cls d σ' A' H' (f4.trans g)
      | ok w =>
        rw [z] at N3
        obtain ⟨fl, ρ5⟩ := w
        cases fl with
        | nx => exact fun σ5 A5 H5 S5 f5 => ⟨A5, ρ5, S5, (f2.trans f4).trans f5, OutS.move (f4.trans f5) N3⟩
        | ct => exact fun σ5 A5 H5 S5 f5 => ⟨A5, ρ5, S5, (f2.trans f4).trans f5, OutS.move (f4.trans f5) N3⟩
        | bk => exact fun σ5 A5 H5 S5 f5 => (show OutF G Z D A2 H2 (.nx, ρ5) from N3) σ5 A5 H5 S5 (f4.trans f5)
        | rt o => exact fun v σ5 A5 H5 S5 f5 => (show OutF G Z D A2 H2 (.rt o, ρ5) from N3) v σ5 A5 H5 S5 (f4.trans f5)
  · have e0 : i = ds.length := by omega
    subst e0
    rw [List.drop_length] at N2
    exact .inl ⟨(I1 A2 H2 f2 S2.hs.dom _).2 (Nat.le_refl _), (show OutF G Z D A2 H2 (.nx, ρ2) from N2) σ2 A2 H2 S2 Fr.refl⟩
theorem s_whl {t : Ex} {b : Cm} : ∀ D σ H, tS G Z W (exC C (.whl t b)) D σ H → tWhile (tB' G Z W (evT C t)) (tS G Z W (exC C b)) D σ H := fun D σ H ⟨A, ρ, S, N⟩ => by
  simp only [exC] at N
  refine ⟨fun m σ H => ∃ A ρ, SR G.K Z A σ H ρ ∧ OutS G Z W D A H (loopW (evT C t) (exC C b) m ρ), ⟨_, A, ρ, S, N⟩, ?_⟩
  rintro m σ2 H2 ⟨A2, ρ2, S2, N2⟩
  cases m with
  | zero => exact N2.elim
  | succ m =>
    simp only [loopW] at N2
    refine ⟨A2, ρ2, S2, (OutS.bindE N2).mono fun x e N3 => fun A3 H3 S3 E3 => ?_⟩
    obtain ⟨k, ρ3⟩ := x
    cases k with
    | false => exact (show OutF G Z D A2 H2 (.nx, ρ3) from N3) σ2 A3 H3 S3 E3.fr
    | true =>
      refine ⟨fun σ' H' => ∃ A' ρ', SR G.K Z A' σ' H' ρ' ∧ OutS G Z W D A' H' (loopW (evT C t) (exC C b) m ρ'), fun σ' H' ⟨A', ρ', S', N'⟩ => ⟨m, Nat.lt_succ_self _, A', ρ', S', N'⟩, A3, ρ3, S3, ?_⟩
      have N4 : OutS G Z W D A2 H2 ((exC C b ρ3).bind fun q => match q.1 with
        | .nx => loopW (evT C t) (exC C b) m q.2
        | .ct => loopW (evT C t) (exC C b) m q.2
        | .bk => .ok (.nx, q.2)
        | .rt o => .ok (.rt o, q.2)) := N3
      cases z : exC C b ρ3 with
      | st => rw [z] at N4; exact N4.elim
      | ex c x => rw [z] at N4; exact fun cls d σ' A' H' g => N4 cls d σ' A' H' (E3.fr.trans g)
      | ok w =>
        rw [z] at N4
        obtain ⟨fl, ρ5⟩ := w
        cases fl with
        | nx => exact fun σ5 A5 H5 S5 f5 => ⟨A5, ρ5, S5, OutS.move (E3.fr.trans f5) N4⟩
        | ct => exact fun σ5 A5 H5 S5 f5 => ⟨A5, ρ5, S5, OutS.move (E3.fr.trans f5) N4⟩
        | bk => exact fun σ5 A5 H5 S5 f5 => (show OutF G Z D A2 H2 (.nx, ρ5) from N4) σ5 A5 H5 S5 (E3.fr.trans f5)
        | rt o => exact fun v σ5 A5 H5 S5 f5 => (show OutF G Z D A2 H2 (.rt o, ρ5) from N4) v σ5 A5 H5 S5 (E3.fr.trans f5)
end
end MP
/-! MI: methods of owned lists; comprehensions. Own work. -/
namespace MP
open PySem
open PySem.Spec
open PyProof.Rows
open L2
section
variable {G : Gd} {Z : Act} {W : WX} {C : Ctx}
/-- the method of an owned list; what comes back, the list behind -/
theorem own_meth {A : Ow} {σ : L2.St} {H : Hp} {ρ : Env} {i : Nat} {p : Bool} {xs ys : List MP.D} {a : Addr} {ws : List V} {ρ0 : Env} {B : Ow} {H0 : Hp} (S : SR G.K Z A σ H ρ) (E0 : Ev σ ρ0 B H0 ρ A H) (e : ρ.at i = .ol p xs) (ea : σ[i]? = some (some (.ref a)))
    (r : RepAs G.K A H ws ys) : SR G.K Z A σ (upd H a (.lst ws)) (ρ.set i (.ol p ys)) ∧ Ev σ ρ0 B H0 (ρ.set i (.ol p ys)) A (upd H a (.lst ws)) ∧ Fr A H A (upd H a (.lst ws)) := by
  obtain ⟨S', f⟩ := S.write e ea r
  have o0 : Own σ ρ a := ⟨i, p, xs, e, ea⟩
  refine ⟨S', ⟨E0.fr.trans f, fun b o h n => ?_, E0.own, fun b h => E0.mono b (own_write e h), fun b h => ?_, fun j h => ?_⟩, f⟩
  · rw [upd_ne (fun z => n (by rw [z]; exact E0.mono a o0))]
    exact E0.keep b o h n
  · by_cases z : b = a
    · rw [z, upd_same]; exact fun q => nomatch q
    · rw [upd_ne z]; exact E0.dom b h
  · by_cases z : i = j
    · subst z
      rw [at_set_eq (at_lt e fun q => nomatch q)]
      exact fun q => nomatch q
    · rw [at_set_ne z]; exact E0.nun j h
theorem e_app {i : Nat} {a : Ex} : ∀ σ H Q, tE G Z W (evE C (.app i a)) σ H Q → tBM G.K "list" rAppend (tVar i) (tCons (tE G Z W (evE C a)) tNil) σ H Q := fun σ H Q ⟨A, ρ, S, N⟩ => by
  simp only [evE] at N
  obtain ⟨_, e0, N0⟩ := N.ofO
  obtain ⟨p0, xs0, q0⟩ := isOl_some e0
  obtain ⟨l, vs0, hu, r01, r02, r03, _⟩ := S.olist q0
  refine ⟨.ref l, hu, .inl ⟨rfl, vs0, .inl (.inl r02)⟩, A, ρ, S, N0.bind.mono fun x e N1 => fun v A1 H1 S1 E1 R1 F1 => ?_⟩
  obtain ⟨y, e2, N2⟩ := N1.ofO
  obtain ⟨y1, ρ1⟩ := y
  obtain ⟨A2, S2, E2, R2⟩ := R1.tk S1 E1 F1 S.hs.dom e2
  dsimp only at N2
  cases q : ρ1.at i with
  | un => rw [q] at N2; exact N2.elim
  | d w => rw [q] at N2; exact N2.elim
  | ol p xs =>
    rw [q] at N2
    dsimp only at N2
    split at N2
    · rename_i hl
      obtain ⟨a', vs, e3, r1, r2, r3, r4, r5⟩ := S2.olist q
      rw [hu] at e3
      cases e3
      obtain ⟨S3, E3, f3⟩ := own_meth S2 E2 q hu (r3.snoc R2)
      exact ⟨l, vs, v, rfl, rfl, r2, by rw [r3.length, line_eq]; exact hl, N2.ok .non A2 _ S3 E3 .non trivial⟩
    · exact N2.elim
theorem e_popAt {i : Nat} {a : Ex} : ∀ σ H Q, tE G Z W (evE C (.popAt i a)) σ H Q → tBM G.K "list" rPopAt (tVar i) (tCons (tE G Z W (evE C a)) tNil) σ H Q := fun σ H Q ⟨A, ρ, S, N⟩ => by
  simp only [evE] at N
  obtain ⟨_, e0, N0⟩ := N.ofO
  obtain ⟨p0, xs0, q0⟩ := isOl_some e0
  obtain ⟨l, vs0, hu, r01, r02, r03, _⟩ := S.olist q0
  refine ⟨.ref l, hu, .inl ⟨rfl, vs0, .inl (.inl r02)⟩, A, ρ, S, N0.bind.mono fun x e N1 => fun v A1 H1 S1 E1 R1 F1 => ?_⟩
  obtain ⟨k, e2, N2⟩ := N1.ofO
  have ek := opInt_some R1 e2
  subst ek
  cases q : x.2.at i with
  | un => rw [q] at N2; exact N2.elim
  | d w => rw [q] at N2; exact N2.elim
  | ol p xs =>
    rw [q] at N2
    dsimp only at N2
    split at N2
    · rename_i hl
      obtain ⟨j, e3, N3⟩ := N2.ofO
      obtain ⟨y, e4, N4⟩ := N3.ofO
      obtain ⟨a', vs, e5, r1, r2, r3, r4, r5⟩ := S1.olist q
      rw [hu] at e5
      cases e5
      obtain ⟨S3, E3, f3⟩ := own_meth S1 E1 q hu (r3.erase j)
      obtain ⟨w, e6, r6⟩ := r3.get e4
      have z := ixN_seq (n := vs.length) (i := k) (j := j) (by rw [r3.length]; exact e3)
      have hv : vs.length ≤ 16777216 := by rw [r3.length]; exact hl
      exact ⟨l, vs, k, j, w, rfl, rfl, r2, by omega, by omega, z.1, e6, N4.ok w A1 _ S3 E3 (RepA.mono f3 r6) trivial⟩
    · exact N2.elim
/-! ### comprehensions -/
theorem wipe_get {σ : L2.St} {vs : List Nat} {i : Nat} (h : i ∉ vs) : (wipe σ vs)[i]? = σ[i]? := by
  induction vs with
  | nil => rfl
  | cons v vs ih =>
    simp only [List.mem_cons, not_or] at h
    unfold wipe
    rw [List.getElem?_set_ne (Ne.symm h.1)]
    exact ih h.2
theorem wipe_in {σ : L2.St} {vs : List Nat} {i : Nat} (h : i ∈ vs) (hi : i < σ.length) : (wipe σ vs)[i]? = some none := by
  induction vs with
  | nil => cases h
  | cons v vs ih =>
    unfold wipe
    by_cases e : v = i
    · subst e
      exact List.getElem?_set_self (by rw [wipe_length]; exact hi)
    · rw [List.getElem?_set_ne e]
      exact ih ((List.mem_cons.mp h).resolve_left fun z => e z.symm)
theorem wipe_ext {σ τ : L2.St} {vs : List Nat} (hl : σ.length = τ.length) (h : ∀ i, i ∉ vs → σ[i]? = τ[i]?) : wipe σ vs = wipe τ vs := by
  apply List.ext_getElem?
  intro i
  by_cases hi : i ∈ vs
  · by_cases hs : i < σ.length
    · rw [wipe_in hi hs, wipe_in hi (by rw [← hl]; exact hs)]
    · rw [List.getElem?_eq_none (by rw [wipe_length]; omega), List.getElem?_eq_none (by rw [wipe_length]; omega)]
  · rw [wipe_get hi, wipe_get hi]
    exact h i hi
theorem wipe_idem {σ : L2.St} {vs : List Nat} : wipe (wipe σ vs) vs = wipe σ vs := wipe_ext (wipe_length _ _) fun i hi => wipe_get hi
theorem wipeE_length (ρ : Env) : ∀ vs : List Nat, (wipeE ρ vs).length = ρ.length
  | [] => rfl
  | v :: vs => by unfold wipeE; rw [List.length_set, wipeE_length ρ vs]
theorem wipeE_at {ρ : Env} {vs : List Nat} {i : Nat} (h : i ∉ vs) : (wipeE ρ vs).at i = ρ.at i := by
  induction vs with
  | nil => rfl
  | cons v vs ih =>
    simp only [List.mem_cons, not_or] at h
    unfold wipeE
    rw [at_set_ne (Ne.symm h.1)]
    exact ih h.2
theorem wipeE_in {ρ : Env} {vs : List Nat} {i : Nat} (h : i ∈ vs) : (wipeE ρ vs).at i = .un := by
  induction vs with
  | nil => cases h
  | cons v vs ih =>
    unfold wipeE
    by_cases e : v = i
    · subst e
      by_cases hi : v < (wipeE ρ vs).length
      · exact at_set_eq hi
      · rw [set_ge hi, at_none hi]
    · rw [at_set_ne e]
      exact ih ((List.mem_cons.mp h).resolve_left fun z => e z.symm)
theorem SR.wipe {A : Ow} {σ : L2.St} {H : Hp} {ρ : Env} (S : SR G.K Z A σ H ρ) : ∀ vs : List Nat, SR G.K Z A (L2.wipe σ vs) H (wipeE ρ vs)
  | [] => S
  | v :: vs => by
    unfold L2.wipe wipeE
    exact (SR.wipe S vs).store (s := none) (y := .un) trivial fun _ _ _ h => nomatch h
theorem own_wipe {σ : L2.St} {ρ : Env} {vs : List Nat} {a : Addr} (h : Own (wipe σ vs) (wipeE ρ vs) a) : Own σ ρ a := by
  obtain ⟨j, p, xs, h1, h2⟩ := h
  by_cases hj : j ∈ vs
  · rw [wipeE_in hj] at h1; cases h1
  · rw [wipeE_at hj] at h1
    rw [wipe_get hj] at h2
    exact ⟨j, p, xs, h1, h2⟩
theorem noOl_some {ρ : Env} : ∀ {vs : List Nat} {u : Unit}, noOl ρ vs = some u → ∀ v ∈ vs, ∀ p xs, ρ.at v ≠ .ol p xs
  | [], _, _, v, hv, _, _ => by cases hv
  | w :: vs, u, h, v, hv, p, xs => by
    unfold noOl at h
    cases e : ρ.at w with
    | ol p' xs' => rw [e] at h; cases h
    | un =>
      rw [e] at h
      rcases List.mem_cons.mp hv with rfl | hv
      · rw [e]; exact fun z => nomatch z
      · exact noOl_some h v hv p xs
    | d x =>
      rw [e] at h
      rcases List.mem_cons.mp hv with rfl | hv
      · rw [e]; exact fun z => nomatch z
      · exact noOl_some h v hv p xs
theorem backE_length (ρ0 ρ : Env) : ∀ vs : List Nat, (backE ρ0 ρ vs).length = ρ.length
  | [] => rfl
  | v :: vs => by unfold backE; rw [List.length_set, backE_length ρ0 ρ vs]
theorem backE_at {ρ0 ρ : Env} {vs : List Nat} {i : Nat} (h : i ∉ vs) : (backE ρ0 ρ vs).at i = ρ.at i := by
  induction vs with
  | nil => rfl
  | cons v vs ih =>
    simp only [List.mem_cons, not_or] at h
    unfold backE
    rw [at_set_ne (Ne.symm h.1)]
    exact ih h.2
theorem backE_in {ρ0 ρ : Env} {vs : List Nat} {i : Nat} (h : i ∈ vs) (hi : i < ρ.length) : (backE ρ0 ρ vs).at i = ρ0.at i := by
  induction vs with
  | nil => cases h
  | cons v vs ih =>
    unfold backE
    by_cases e : v = i
    · subst e
      exact at_set_eq (by rw [backE_length]; exact hi)
    · rw [at_set_ne e]
      exact ih ((List.mem_cons.mp h).resolve_left fun z => e z.symm)
/-- a list that is owned by nothing known is written -/
theorem SR.writeN {A : Ow} {σ : L2.St} {H : Hp} {ρ : Env} (S : SR G.K Z A σ H ρ) {a : Addr} {ws : List V} (hA : A a) (hn : ¬ Own σ ρ a) (h0 : Z.H0 a = none) : SR G.K Z A σ (upd H a (.lst ws)) ρ ∧ Fr A H A (upd H a (.lst ws)) := by
  have f : Fr A H A (upd H a (.lst ws)) := fun c o h n => ⟨by rw [upd_ne (fun z => n (by rw [z]; exact hA))]; exact h, n⟩
  have dm : ∀ c, H c ≠ none → upd H a (.lst ws) c ≠ none := fun c h => by
    by_cases z : c = a
    · rw [z, upd_same]; exact fun q => nomatch q
    · rw [upd_ne z]; exact h
  refine ⟨⟨⟨fun c h => dm c (S.hs.dom c h), S.hs.sub, fun c o h n => ?_, fun c h => dm c (S.hs.oldd c h), S.hs.dom0, S.hs.wr0⟩, S.len, fun j hj => ?_, S.inj⟩, f⟩
  · rw [upd_ne (fun z => by rw [z, h0] at h; cases h)]
    exact S.hs.old c o h n
  · refine (S.sl j hj).mono f fun q zs c h1 h2 => ?_
    have k := S.sl j hj
    rw [h1] at k
    obtain ⟨c', vs', k1, k2, k3, _⟩ := k
    rw [h2] at k1
    cases k1
    exact ⟨k2, upd_ne fun w => hn (by rw [← w]; exact ⟨j, q, zs, h1, getD_some h2⟩)⟩
/-- how a comprehension stands at a turn -/
structure LcI (G : Gd) (Z : Act) (σ : L2.St) (ρ1 : Env) (A1 : Ow) (H1 : Hp) (vs : List Nat) (D : Addr) (ρ : Env) (A : Ow) (H : Hp) (acc : List V) (ys : List MP.D) : Prop where
  sr : SR G.K Z A (wipe σ vs) H (wipeE ρ vs)
  fr : Fr A1 H1 A H
  keep : ∀ a o, H1 a = some o → ¬ Own σ ρ1 a → H a = some o
  own : ∀ a, A1 a → ¬ Own σ ρ1 a → A a
  mono : ∀ a, Own (wipe σ vs) (wipeE ρ vs) a → Own σ ρ1 a
  dom : ∀ a, H1 a ≠ none → H a ≠ none
  nun : ∀ i, i ∉ vs → ρ1.at i ≠ .un → ρ.at i ≠ .un
  dl : H D = some (.lst acc)
  da : A D
  rep : RepAs G.K A H acc ys
abbrev W0 : WX := fun _ _ _ _ => False
theorem tgN_wipe {t : Tg} {vs : List Nat} (hv : ∀ i ∈ tgN t, i ∈ vs) {σ σ' : L2.St} (hl : σ'.length = σ.length) (h : ∀ i, i ∉ tgN t → σ'[i]? = (wipe σ vs)[i]?) : wipe σ' vs = wipe σ vs := by
  rw [← wipe_idem (σ := σ)]
  exact wipe_ext (by rw [wipe_length]; exact hl) fun i hi => h i fun z => hi (hv i z)
theorem mapC_len {step : MP.D → Env → Rs (Option MP.D × Env)} : ∀ (xs : List MP.D) (ρ : Env) (r : List MP.D × Env), mapC step xs ρ = .ok r → r.1.length ≤ xs.length
  | [], ρ, r, h => by simp only [mapC] at h; cases h; exact Nat.le_refl _
  | x :: xs, ρ, r, h => by
    simp only [mapC] at h
    cases e : step x ρ with
    | st => rw [e] at h; cases h
    | ex c y => rw [e] at h; cases h
    | ok q =>
      rw [e] at h
      simp only [Rs.bind_ok] at h
      cases e2 : mapC step xs q.2 with
      | st => rw [e2] at h; cases h
      | ex c y => rw [e2] at h; cases h
      | ok w =>
        rw [e2] at h
        simp only [Rs.bind_ok] at h
        cases h
        have z := mapC_len xs q.2 w e2
        have z1 : q.1.toList.length ≤ 1 := by cases q.1 <;> simp
        simp only [List.length_append, List.length_cons]
        omega
mutual
theorem asgT_nun : ∀ (t : Tg) (x : MP.D) (ρ ρ' : Env), asgT t x ρ = some ρ' → ∀ i, ρ.at i ≠ .un → ρ'.at i ≠ .un
  | .name j, x, ρ, ρ', h, i, n => by
    simp only [asgT] at h
    cases h
    by_cases e : j = i
    · subst e
      rw [at_set_eq (at_lt rfl n)]
      exact fun z => nomatch z
    · rw [at_set_ne e]; exact n
  | .ixL j k, x, ρ, ρ', h, i, n => by
    simp only [asgT] at h
    obtain ⟨p, xs, m, e1, e2, rfl⟩ := setAt_some h
    by_cases e : j = i
    · subst e
      rw [at_set_eq (at_lt rfl n)]
      exact fun z => nomatch z
    · rw [at_set_ne e]; exact n
  | .ixV j k, x, ρ, ρ', h, i, n => by
    simp only [asgT] at h
    cases q : ρ.at k with
    | d w =>
      rw [q] at h
      cases w with
      | int w =>
        dsimp only at h
        obtain ⟨p, xs, m, e1, e2, rfl⟩ := setAt_some h
        by_cases e : j = i
        · subst e
          rw [at_set_eq (at_lt rfl n)]
          exact fun z => nomatch z
        · rw [at_set_ne e]; exact n
      | _ => cases h
    | _ => rw [q] at h; cases h
  | .nil, x, ρ, ρ', h, i, n => by simp [asgT] at h
  | .cons a r, x, ρ, ρ', h, i, n => by simp [asgT] at h
  | .tup ts, x, ρ, ρ', h, i, n => by
    simp only [asgT] at h
    cases x with
    | tup xs => exact asgTs_nun ts xs ρ ρ' h i n
    | _ => cases h
theorem asgTs_nun : ∀ (t : Tg) (xs : List MP.D) (ρ ρ' : Env), asgTs t xs ρ = some ρ' → ∀ i, ρ.at i ≠ .un → ρ'.at i ≠ .un
  | .nil, [], ρ, ρ', h, i, n => by simp only [asgTs] at h; cases h; exact n
  | .cons a r, x :: xs, ρ, ρ', h, i, n => by
    simp only [asgTs] at h
    cases q : asgT a x ρ with
    | none => rw [q] at h; cases h
    | some ρ1 =>
      rw [q] at h
      exact asgTs_nun r xs ρ1 ρ' h i (asgT_nun a x ρ ρ1 q i n)
  | .nil, _ :: _, ρ, ρ', h, i, n => by simp [asgTs] at h
  | .cons _ _, [], ρ, ρ', h, i, n => by simp [asgTs] at h
  | .name _, xs, ρ, ρ', h, i, n => by cases xs <;> simp [asgTs] at h
  | .ixL _ _, xs, ρ, ρ', h, i, n => by cases xs <;> simp [asgTs] at h
  | .ixV _ _, xs, ρ, ρ', h, i, n => by cases xs <;> simp [asgTs] at h
  | .tup _, xs, ρ, ρ', h, i, n => by cases xs <;> simp [asgTs] at h
end
mutual
theorem asgT_len : ∀ (t : Tg) (x : MP.D) (ρ ρ' : Env), asgT t x ρ = some ρ' → ρ'.length = ρ.length
  | .name j, x, ρ, ρ', h => by
    simp only [asgT] at h
    cases h
    exact List.length_set ..
  | .ixL j k, x, ρ, ρ', h => by
    simp only [asgT] at h
    obtain ⟨p, xs, m, e1, e2, rfl⟩ := setAt_some h
    exact List.length_set ..
  | .ixV j k, x, ρ, ρ', h => by
    simp only [asgT] at h
    cases q : ρ.at k with
    | d w =>
      rw [q] at h
      cases w with
      | int w =>
        dsimp only at h
        obtain ⟨p, xs, m, e1, e2, rfl⟩ := setAt_some h
        exact List.length_set ..
      | _ => cases h
    | _ => rw [q] at h; cases h
  | .nil, x, ρ, ρ', h => by simp [asgT] at h
  | .cons a r, x, ρ, ρ', h => by simp [asgT] at h
  | .tup ts, x, ρ, ρ', h => by
    simp only [asgT] at h
    cases x with
    | tup xs => exact asgTs_length ts xs ρ ρ' h
    | _ => cases h
theorem asgTs_length : ∀ (t : Tg) (xs : List MP.D) (ρ ρ' : Env), asgTs t xs ρ = some ρ' → ρ'.length = ρ.length
  | .nil, [], ρ, ρ', h => by simp only [asgTs] at h; cases h; rfl
  | .cons a r, x :: xs, ρ, ρ', h => by
    simp only [asgTs] at h
    cases q : asgT a x ρ with
    | none => rw [q] at h; cases h
    | some ρ1 =>
      rw [q] at h
      exact (asgTs_length r xs ρ1 ρ' h).trans (asgT_len a x ρ ρ1 q)
  | .nil, _ :: _, ρ, ρ', h => by simp [asgTs] at h
  | .cons _ _, [], ρ, ρ', h => by simp [asgTs] at h
  | .name _, xs, ρ, ρ', h => by cases xs <;> simp [asgTs] at h
  | .ixL _ _, xs, ρ, ρ', h => by cases xs <;> simp [asgTs] at h
  | .ixV _ _, xs, ρ, ρ', h => by cases xs <;> simp [asgTs] at h
  | .tup _, xs, ρ, ρ', h => by cases xs <;> simp [asgTs] at h
end
section
variable {σ σ2 : L2.St} {ρ1 ρ ρ2 ρ5 : Env} {A1 A A5 : Ow} {H1 H H' H2 H4 : Hp} {vs : List Nat} {D : Addr} {acc : List V} {ys : List MP.D}
/-- a turn: the item is stored, something is reckoned -/
theorem LcI.next (L : LcI G Z σ ρ1 A1 H1 vs D ρ A H acc ys) (hD : H1 D = none) (S1 : SR G.K Z A1 σ H1 ρ1) (ex : Ext H H') (E2 : Es (wipe σ vs) (wipeE ρ vs) A H' A H2) (hw : wipe σ2 vs = wipe σ vs)
    (m2 : ∀ a, Own σ2 ρ2 a → Own (wipe σ vs) (wipeE ρ vs) a) (n2 : ∀ i, (wipeE ρ vs).at i ≠ .un → ρ2.at i ≠ .un) (d2 : ∀ a, H' a ≠ none → H2 a ≠ none) (S5 : SR G.K Z A5 σ2 H4 ρ5) (E5 : Ev σ2 ρ2 A H2 ρ5 A5 H4) : LcI G Z σ ρ1 A1 H1 vs D ρ5 A5 H4 acc ys := by
  have f : Fr A H A5 H4 := ((Ext.fr ex).trans E2.fr).trans E5.fr
  have nD : ∀ a, H1 a = none → ¬ Own σ ρ1 a := fun a h q => by
    obtain ⟨_, ws, z⟩ := Own.there S1 q
    rw [h] at z; cases z
  refine ⟨by rw [← hw]; exact S5.wipe vs, L.fr.trans f, fun a o h n => ?_, fun a h n => E5.own a (L.own a h n) fun q => n (L.mono a (m2 a q)), fun a h => ?_, fun a h => E5.dom a (d2 a (ex.dom (L.dom a h))), fun i hi h => ?_, ?_, ?_, RepAs.mono f L.rep⟩
  · exact E5.keep a o (E2.keep a o (ex a o (L.keep a o h n)) fun q => n (L.mono a q)) fun q => n (L.mono a (m2 a q))
  · rw [← hw] at h
    exact L.mono a (m2 a (E5.mono a (own_wipe h)))
  · exact E5.nun i (n2 i (by rw [wipeE_at hi]; exact L.nun i hi h))
  · exact E5.keep D _ (E2.keep D _ (ex D _ L.dl) fun q => nD D hD (L.mono D q)) fun q => nD D hD (L.mono D (m2 D q))
  · exact E5.own D L.da fun q => nD D hD (L.mono D (m2 D q))
/-- .. and kept -/
theorem LcI.more (L : LcI G Z σ ρ1 A1 H1 vs D ρ A H acc ys) (hD : H1 D = none) (S1 : SR G.K Z A1 σ H1 ρ1) {v : V} {y : MP.D} (r : RepA G.K A H v y) : LcI G Z σ ρ1 A1 H1 vs D ρ A (upd H D (.lst (acc ++ [v]))) (acc ++ [v]) (ys ++ [y]) := by
  have nD : ¬ Own σ ρ1 D := fun q => by
    obtain ⟨_, ws, z⟩ := Own.there S1 q
    rw [hD] at z; cases z
  have h0 : Z.H0 D = none := by
    cases z : Z.H0 D with
    | none => rfl
    | some u => exact absurd hD (S1.hs.oldd D (by rw [z]; exact fun q => nomatch q))
  obtain ⟨S', f⟩ := L.sr.writeN (ws := acc ++ [v]) L.da (fun q => nD (L.mono D q)) h0
  refine ⟨S', L.fr.trans f, fun a o h n => ?_, L.own, L.mono, fun a h => ?_, L.nun, upd_same, L.da, RepAs.mono f (L.rep.snoc r)⟩
  · rw [upd_ne (ne_of_none h hD)]
    exact L.keep a o h n
  · by_cases z : a = D
    · rw [z, upd_same]; exact fun q => nomatch q
    · rw [upd_ne z]; exact L.dom a h
/-- .. at its end -/
theorem LcI.done (L : LcI G Z σ ρ1 A1 H1 vs D ρ A H acc ys) (hD : H1 D = none) (S1 : SR G.K Z A1 σ H1 ρ1) (no : ∀ v ∈ vs, ∀ p xs, ρ1.at v ≠ .ol p xs) :
    SR G.K Z A σ H (backE ρ1 ρ vs) ∧ Ev σ ρ1 A1 H1 (backE ρ1 ρ vs) A H ∧ OpV G.K Z σ (backE ρ1 ρ vs) A H (.ref D) (.nw ys) := by
  have hlen : ρ.length = σ.length := by
    have z := L.sr.len
    rw [wipeE_length, wipe_length] at z
    exact z
  have nD : ¬ Own σ ρ1 D := fun q => by
    obtain ⟨_, ws, z⟩ := Own.there S1 q
    rw [hD] at z; cases z
  have ow : ∀ j p xs, (backE ρ1 ρ vs).at j = .ol p xs → j ∉ vs ∧ ρ.at j = .ol p xs := fun j p xs h => by
    by_cases hj : j ∈ vs
    · have hl : j < ρ.length := by
        have z := at_lt h fun q => nomatch q
        rw [backE_length] at z
        exact z
      rw [backE_in hj hl] at h
      exact absurd h (no j hj p xs)
    · rw [backE_at hj] at h
      exact ⟨hj, h⟩
  have mo : ∀ a, Own σ (backE ρ1 ρ vs) a → Own σ ρ1 a := fun a ⟨j, p, xs, h1, h2⟩ => by
    obtain ⟨hj, h3⟩ := ow j p xs h1
    exact L.mono a ⟨j, p, xs, by rw [wipeE_at hj]; exact h3, by rw [wipe_get hj]; exact h2⟩
  refine ⟨⟨L.sr.hs, by rw [backE_length]; exact hlen, fun i hi => ?_, fun i j a p q xs ys hij h1 h2 h3 h4 => ?_⟩, ⟨L.fr, L.keep, L.own, mo, L.dom, fun i h => ?_⟩, D, acc, rfl, L.da, fun q => nD (mo D q), L.dl, L.rep, ?_⟩
  · by_cases hv : i ∈ vs
    · rw [backE_in hv (by rw [hlen]; exact hi)]
      exact (S1.sl i hi).mono L.fr fun p xs a h _ => absurd h (no i hv p xs)
    · rw [backE_at hv]
      have z := L.sr.sl i (by rw [wipe_length]; exact hi)
      rw [wipeE_at hv, List.getD_eq_getElem?_getD, wipe_get hv, ← List.getD_eq_getElem?_getD] at z
      exact z
  · obtain ⟨n1, k1⟩ := ow i p xs h1
    obtain ⟨n2, k2⟩ := ow j q ys h2
    have z := L.sr.inj i j a p q xs ys hij (by rw [wipeE_at n1]; exact k1) (by rw [wipeE_at n2]; exact k2) (by rw [wipe_get n1]; exact h3)
    rw [wipe_get n2] at z
    exact z h4
  · by_cases hv : i ∈ vs
    · rw [backE_in hv (by rw [hlen, ← S1.len]; exact at_lt rfl h)]
      exact h
    · rw [backE_at hv]
      exact L.nun i hv h
  · cases z : Z.H0 D with
    | none => rfl
    | some u => exact absurd hD (S1.hs.oldd D (by rw [z]; exact fun q => nomatch q))
end
theorem rs_ofO {α β : Type} {o : Option α} {g : α → Rs β} {b : β} (h : (ofO o).bind g = .ok b) : ∃ a, o = some a ∧ g a = .ok b := by
  cases o with
  | none => cases h
  | some a => exact ⟨a, rfl, h⟩
theorem rs_bind {α β : Type} {r : Rs α} {g : α → Rs β} {b : β} (h : r.bind g = .ok b) : ∃ a, r = .ok a ∧ g a = .ok b := by
  cases r with
  | st => cases h
  | ex c x => cases h
  | ok a => exact ⟨a, rfl, h⟩
def lcStep (C : Ctx) (tg : Tg) (c elt : Ex) (vs : List Nat) (y : MP.D) (ρ1 : Env) : Rs (Option MP.D × Env) :=
  (ofO (asgT tg y (wipeE ρ1 vs))).bind fun ρ2 => (evT C c ρ2).bind fun t => if t.1 then (evE C elt t.2).bind fun z => (ofO (tk z.2 z.1)).bind fun w => .ok (some w.1, w.2) else .ok (none, t.2)
theorem e_lc {tg : Tg} {it c elt : Ex} {vs : List Nat} (hv : ∀ i ∈ tgN tg, i ∈ vs) :
    ∀ σ H Q, tE G Z W (evE C (.lc tg it c elt vs)) σ H Q → tLc (tI G Z W (evI C it)) (tG G.K Z tg) (tB' G Z W0 (evT C c)) (tE G Z W0 (evE C elt)) vs σ H Q := fun σ H Q ⟨A, ρ, S, N⟩ => by
  simp only [evE] at N
  refine ⟨A, ρ, S, N.bind.mono fun x e N1 => fun J A1 H1 S1 E1 I1 => ?_⟩
  obtain ⟨ds, ρ1⟩ := x
  obtain ⟨_, e0, N2⟩ := N1.ofO
  have no := noOl_some e0
  dsimp only at N2 S1 E1 I1 e no
  by_cases hl : ds.length ≤ line
  · rw [if_pos hl] at N2
    have N2' : Out G Z W σ A H (((mapC (lcStep C tg c elt vs) ds ρ1).calm).bind fun r => .ok (.nw r.1, backE ρ1 r.2 vs)) (PO' G Z σ A H ρ Q) := N2
    cases hm : mapC (lcStep C tg c elt vs) ds ρ1 with
    | st => rw [hm] at N2'; exact N2'.elim
    | ex c x => rw [hm] at N2'; exact N2'.elim
    | ok r =>
      rw [hm] at N2'
      obtain ⟨zs, ρe⟩ := r
      have N3 : PO' G Z σ A H ρ Q (.nw zs, backE ρ1 ρe vs) := N2'
      intro D hD
      have ex0 := Ext.new (o := HO.lst []) hD
      refine ⟨fun i m H2 => m = ds.length - i ∧ i ≤ ds.length ∧ ∃ ρ2 A2 acc ys zs', LcI G Z σ ρ1 A1 H1 vs D ρ2 A2 H2 acc ys ∧ mapC (lcStep C tg c elt vs) (ds.drop i) ρ2 = .ok (zs', ρe) ∧ ys ++ zs' = zs ∧ ys.length ≤ i,
        ⟨_, rfl, Nat.zero_le _, ρ1, _, [], [], zs, ⟨(S1.grow_new ex0 hD (by rw [upd_same]; exact fun q => nomatch q)).wipe vs, fr_new ex0 hD, fun a o h _ => ex0 a o h, fun a h _ => .inl h, fun a h => own_wipe h, fun a h => ex0.dom h, fun _ _ h => h, upd_same, .inr rfl, .nil⟩, hm, rfl, Nat.le_refl _⟩, ?_⟩
      rintro i m H2 ⟨rfl, hi, ρ2, A2, acc, ys, zs', L, hm2, hz, hy⟩
      by_cases hlt : i < ds.length
      · have hd : ds[i]? = some ds[i] := List.getElem?_eq_getElem hlt
        rw [List.drop_eq_getElem_cons hlt] at hm2
        simp only [mapC] at hm2
        obtain ⟨q, hq, hm3⟩ := rs_bind hm2
        obtain ⟨w, hw, hm4⟩ := rs_bind hm3
        cases hm4
        obtain ⟨go, yl⟩ := (I1 A2 H2 L.fr L.sr.hs.dom i).1 _ hd
        refine .inr ⟨go, fun H' => ∃ ρ2 A2 acc ys zs', LcI G Z σ ρ1 A1 H1 vs D ρ2 A2 H' acc ys ∧ mapC (lcStep C tg c elt vs) (ds.drop (i + 1)) ρ2 = .ok (zs', w.2) ∧ ys ++ zs' = zs ∧ ys.length ≤ i + 1,
          fun H' ⟨ρ3, A3, acc3, ys3, zs3, L3, m3, z3, y3⟩ => ⟨ds.length - (i + 1), by omega, rfl, hlt, ρ3, A3, acc3, ys3, zs3, L3, m3, z3, y3⟩, fun x H3 y => ?_⟩
        obtain ⟨ex, rx⟩ := yl x H3 y
        unfold lcStep at hq
        obtain ⟨ρ3, e3, hq2⟩ := rs_ofO hq
        obtain ⟨t, e4, hq3⟩ := rs_bind hq2
        refine ⟨A2, wipeE ρ2 vs, ds[i], ρ3, L.sr.grow ex, rx, e3, fun σ4 H4 S4 E4 n4 m4 => ?_⟩
        have hwp : wipe σ4 vs = wipe σ vs := by
          have z := S4.len
          have z2 := L.sr.len
          have z3 := asgT_len _ _ _ _ e3
          rw [z3] at z
          rw [wipe_length] at z2
          exact tgN_wipe hv (by omega) n4
        have d4 : ∀ a, H3 a ≠ none → H4 a ≠ none := fun a h => by
          by_cases ho : Own (wipe σ vs) (wipeE ρ2 vs) a
          · exact S4.hs.dom a (Own.there (L.sr.grow ex) ho).1
          · cases z : H3 a with
            | none => exact absurd z h
            | some o => rw [E4.keep a o z ho]; exact fun q => nomatch q
        refine ⟨hwp, A2, ρ3, S4, ?_⟩
        rw [e4]
        intro A5 H5 S5 E5
        obtain ⟨tb, ρ5⟩ := t
        cases tb with
        | false =>
          cases hq3
          have L' := L.next hD S1 ex E4 hwp m4 (asgT_nun _ _ _ _ e3) d4 S5 E5
          exact ⟨ρ5, A5, acc, ys, w.1, L', hw, by simpa using hz, by omega⟩
        | true =>
          obtain ⟨z, e5, hq4⟩ := rs_bind (show (evE C elt ρ5).bind (fun z => (ofO (tk z.2 z.1)).bind fun w => .ok (some w.1, w.2)) = .ok q from hq3)
          obtain ⟨u, e6, hq5⟩ := rs_ofO hq4
          cases hq5
          refine ⟨A5, ρ5, S5, ?_⟩
          rw [e5]
          intro v A6 H6 S6 E6 R6 F6
          obtain ⟨u1, ρ6⟩ := u
          obtain ⟨A7, S7, E7, R7⟩ := R6.tk S6 E6 F6 S5.hs.dom e6
          have L' := L.next hD S1 ex E4 hwp m4 (asgT_nun _ _ _ _ e3) d4 S7 (E5.trans E7)
          refine ⟨acc, L'.dl, by rw [L'.rep.length, line_eq]; omega, ρ6, A7, acc ++ [v], ys ++ [u1], w.1, L'.more hD S1 R7, hw, ?_, by simp; omega⟩
          rw [List.append_assoc]
          simpa using hz
      · have e0 : i = ds.length := by omega
        subst e0
        rw [List.drop_length] at hm2
        simp only [mapC] at hm2
        cases hm2
        obtain ⟨S9, E9, R9⟩ := L.done hD S1 no
        refine .inl ⟨(I1 A2 H2 L.fr L.sr.hs.dom _).2 (Nat.le_refl _), ?_⟩
        have ez : ys = zs := by simpa using hz
        subst ez
        exact N3 (.ref D) A2 H2 S9 (E1.trans E9) R9 (fresh_back E1 ⟨D, rfl, hD⟩)
  · rw [if_neg hl] at N2; exact N2.elim

/-! ### two fors -/
structure LcJ (G : Gd) (Z : Act) (σ : L2.St) (ρ1 : Env) (A1 : Ow) (H1 : Hp) (Ai : Ow) (Hi : Hp) (σc : L2.St) (vs vs1 : List Nat) (D : Addr) (ρ : Env) (A : Ow) (H : Hp) (acc : List V) (ys : List MP.D) : Prop where
  sr : SR G.K Z A (wipe σc vs1) H (wipeE ρ vs1)
  fr : Fr A1 H1 A H
  fri : Fr Ai Hi A H
  keep : ∀ a o, H1 a = some o → ¬ Own σ ρ1 a → H a = some o
  own : ∀ a, A1 a → ¬ Own σ ρ1 a → A a
  mono : ∀ a, Own (wipe σc vs1) (wipeE ρ vs1) a → Own σ ρ1 a
  dom : ∀ a, H1 a ≠ none → H a ≠ none
  nun : ∀ i, i ∉ vs → ρ1.at i ≠ .un → ρ.at i ≠ .un
  dl : H D = some (.lst acc)
  da : A D
  rep : RepAs G.K A H acc ys
section
variable {σ σc σ2 : L2.St} {ρ1 ρ ρ2 ρ5 : Env} {A1 A A5 Ai : Ow} {H1 H H' H2 H4 Hi : Hp} {vs vs1 : List Nat} {D : Addr} {acc : List V} {ys : List MP.D}
theorem LcJ.turn (L : LcJ G Z σ ρ1 A1 H1 Ai Hi σc vs vs1 D ρ A H acc ys) (hv : ∀ i ∈ vs1, i ∈ vs) (hD : H1 D = none) (S1 : SR G.K Z A1 σ H1 ρ1) (ex : Ext H H') (E2 : Es (wipe σc vs1) (wipeE ρ vs1) A H' A H2) (hw : wipe σ2 vs1 = wipe σc vs1)
    (m2 : ∀ a, Own σ2 ρ2 a → Own (wipe σc vs1) (wipeE ρ vs1) a) (n2 : ∀ i, (wipeE ρ vs1).at i ≠ .un → ρ2.at i ≠ .un) (d2 : ∀ a, H' a ≠ none → H2 a ≠ none) (S5 : SR G.K Z A5 σ2 H4 ρ5) (E5 : Ev σ2 ρ2 A H2 ρ5 A5 H4) : LcJ G Z σ ρ1 A1 H1 Ai Hi σc vs vs1 D ρ5 A5 H4 acc ys := by
  have f : Fr A H A5 H4 := ((Ext.fr ex).trans E2.fr).trans E5.fr
  have nD : ¬ Own σ ρ1 D := fun q => by
    obtain ⟨_, ws, z⟩ := Own.there S1 q
    rw [hD] at z; cases z
  refine ⟨by rw [← hw]; exact S5.wipe vs1, L.fr.trans f, L.fri.trans f, fun a o h n => ?_, fun a h n => E5.own a (L.own a h n) fun q => n (L.mono a (m2 a q)), fun a h => ?_, fun a h => E5.dom a (d2 a (ex.dom (L.dom a h))), fun i hi h => ?_, ?_, ?_, RepAs.mono f L.rep⟩
  · exact E5.keep a o (E2.keep a o (ex a o (L.keep a o h n)) fun q => n (L.mono a q)) fun q => n (L.mono a (m2 a q))
  · rw [← hw] at h
    exact L.mono a (m2 a (E5.mono a (own_wipe h)))
  · exact E5.nun i (n2 i (by rw [wipeE_at fun z => hi (hv i z)]; exact L.nun i hi h))
  · exact E5.keep D _ (E2.keep D _ (ex D _ L.dl) fun q => nD (L.mono D q)) fun q => nD (L.mono D (m2 D q))
  · exact E5.own D L.da fun q => nD (L.mono D (m2 D q))
theorem LcJ.add (L : LcJ G Z σ ρ1 A1 H1 Ai Hi σc vs vs1 D ρ A H acc ys) (hD : H1 D = none) (S1 : SR G.K Z A1 σ H1 ρ1) (nDi : Hi D ≠ none → Ai D) {v : V} {y : MP.D} (r : RepA G.K A H v y) : LcJ G Z σ ρ1 A1 H1 Ai Hi σc vs vs1 D ρ A (upd H D (.lst (acc ++ [v]))) (acc ++ [v]) (ys ++ [y]) := by
  have nD : ¬ Own σ ρ1 D := fun q => by
    obtain ⟨_, ws, z⟩ := Own.there S1 q
    rw [hD] at z; cases z
  have h0 : Z.H0 D = none := by
    cases z : Z.H0 D with
    | none => rfl
    | some u => exact absurd hD (S1.hs.oldd D (by rw [z]; exact fun q => nomatch q))
  obtain ⟨S', f⟩ := L.sr.writeN (ws := acc ++ [v]) L.da (fun q => nD (L.mono D q)) h0
  refine ⟨S', L.fr.trans f, L.fri.trans f, fun a o h n => ?_, L.own, L.mono, fun a h => ?_, L.nun, upd_same, L.da, RepAs.mono f (L.rep.snoc r)⟩
  · rw [upd_ne (ne_of_none h hD)]
    exact L.keep a o h n
  · by_cases z : a = D
    · rw [z, upd_same]; exact fun q => nomatch q
    · rw [upd_ne z]; exact L.dom a h
theorem LcJ.back (L : LcJ G Z σ ρ1 A1 H1 Ai Hi σc vs vs1 D ρ A H acc ys) (hv : ∀ i ∈ vs1, i ∈ vs) (hw : wipe σc vs = wipe σ vs) : LcI G Z σ ρ1 A1 H1 vs D (wipeE ρ vs1) A H acc ys := by
  have e : wipe (wipe σc vs1) vs = wipe σ vs := by
    rw [← hw]
    exact wipe_ext (wipe_length _ _) fun i hi => wipe_get fun z => hi (hv i z)
  refine ⟨by rw [← e]; exact L.sr.wipe vs, L.fr, L.keep, L.own, fun a h => ?_, L.dom, fun i hi h => ?_, L.dl, L.da, L.rep⟩
  · rw [← e] at h
    exact L.mono a (own_wipe h)
  · rw [wipeE_at fun z => hi (hv i z)]
    exact L.nun i hi h
end
def stp1 (C : Ctx) (tg1 : Tg) (c1 elt : Ex) (vs1 : List Nat) (y1 : MP.D) (ρ3 : Env) : Rs (Option MP.D × Env) :=
  (ofO (asgT tg1 y1 (wipeE ρ3 vs1))).bind fun ρ4 => (evT C c1 ρ4).bind fun t1 => if t1.1 then (evE C elt t1.2).bind fun z => (ofO (tk z.2 z.1)).bind fun w => .ok (some w.1, w.2) else .ok (none, t1.2)
def stp2 (C : Ctx) (tg : Tg) (c : Ex) (tg1 : Tg) (it1 c1 elt : Ex) (vs vs1 : List Nat) (y : MP.D) (ρ1 : Env) : Rs (List MP.D × Env) :=
  (ofO (asgT tg y (wipeE ρ1 vs))).bind fun ρ2 => (evT C c ρ2).bind fun t => if t.1 then (evI C it1 t.2).bind fun q => (mapC (stp1 C tg1 c1 elt vs1) q.1 q.2).bind fun r => .ok (r.1, wipeE r.2 vs1) else .ok ([], t.2)
theorem e_lc2 {tg tg1 : Tg} {it c it1 c1 elt : Ex} {vs vs1 : List Nat} (hv : ∀ i ∈ tgN tg, i ∈ vs) (hv1 : ∀ i ∈ tgN tg1, i ∈ vs1) (hvv : ∀ i ∈ vs1, i ∈ vs) :
    ∀ σ H Q, tE G Z W (evE C (.lc2 tg it c tg1 it1 c1 elt vs vs1)) σ H Q → tLc2 (tI G Z W (evI C it)) (tG G.K Z tg) (tB' G Z W0 (evT C c)) (tI G Z W0 (evI C it1)) (tG G.K Z tg1) (tB' G Z W0 (evT C c1)) (tE G Z W0 (evE C elt)) vs vs1 σ H Q := fun σ H Q ⟨A, ρ, S, N⟩ => by
  simp only [evE] at N
  refine ⟨A, ρ, S, N.bind.mono fun x e N1 => fun J A1 H1 S1 E1 I1 => ?_⟩
  obtain ⟨ds, ρ1⟩ := x
  obtain ⟨_, e0, N2⟩ := N1.ofO
  have no := noOl_some e0
  dsimp only at N2 S1 E1 I1 e no
  have N2' : Out G Z W σ A H (((mapC2 (stp2 C tg c tg1 it1 c1 elt vs vs1) ds ρ1).calm).bind fun r => if r.1.length ≤ line then .ok (.nw r.1, backE ρ1 r.2 vs) else .st) (PO' G Z σ A H ρ Q) := N2
  cases hm : mapC2 (stp2 C tg c tg1 it1 c1 elt vs vs1) ds ρ1 with
  | st => rw [hm] at N2'; exact N2'.elim
  | ex c x => rw [hm] at N2'; exact N2'.elim
  | ok r =>
    rw [hm] at N2'
    obtain ⟨zs, ρe⟩ := r
    simp only [Rs.calm_ok, Rs.bind_ok] at N2'
    by_cases hl : zs.length ≤ line
    · rw [if_pos hl] at N2'
      have N3 : PO' G Z σ A H ρ Q (.nw zs, backE ρ1 ρe vs) := N2'
      intro D hD
      have ex0 := Ext.new (o := HO.lst []) hD
      refine ⟨fun i m H2 => m = ds.length - i ∧ i ≤ ds.length ∧ ∃ ρ2 A2 acc ys zs', LcI G Z σ ρ1 A1 H1 vs D ρ2 A2 H2 acc ys ∧ mapC2 (stp2 C tg c tg1 it1 c1 elt vs vs1) (ds.drop i) ρ2 = .ok (zs', ρe) ∧ ys ++ zs' = zs,
        ⟨_, rfl, Nat.zero_le _, ρ1, _, [], [], zs, ⟨(S1.grow_new ex0 hD (by rw [upd_same]; exact fun q => nomatch q)).wipe vs, fr_new ex0 hD, fun a o h _ => ex0 a o h, fun a h _ => .inl h, fun a h => own_wipe h, fun a h => ex0.dom h, fun _ _ h => h, upd_same, .inr rfl, .nil⟩, hm, rfl⟩, ?_⟩
      rintro i m H2 ⟨rfl, hi, ρ2, A2, acc, ys, zs', L, hm2, hz⟩
      by_cases hlt : i < ds.length
      · have hd : ds[i]? = some ds[i] := List.getElem?_eq_getElem hlt
        rw [List.drop_eq_getElem_cons hlt] at hm2
        simp only [mapC2] at hm2
        obtain ⟨q, hq, hm3⟩ := rs_bind hm2
        obtain ⟨w, hw, hm4⟩ := rs_bind hm3
        cases hm4
        obtain ⟨go, yl⟩ := (I1 A2 H2 L.fr L.sr.hs.dom i).1 _ hd
        refine .inr ⟨go, fun H' => ∃ ρ2 A2 acc ys zs', LcI G Z σ ρ1 A1 H1 vs D ρ2 A2 H' acc ys ∧ mapC2 (stp2 C tg c tg1 it1 c1 elt vs vs1) (ds.drop (i + 1)) ρ2 = .ok (zs', w.2) ∧ ys ++ zs' = zs,
          fun H' ⟨ρ3, A3, acc3, ys3, zs3, L3, m3, z3⟩ => ⟨ds.length - (i + 1), by omega, rfl, hlt, ρ3, A3, acc3, ys3, zs3, L3, m3, z3⟩, fun x H3 y => ?_⟩
        obtain ⟨ex, rx⟩ := yl x H3 y
        unfold stp2 at hq
        obtain ⟨ρ3, e3, hq2⟩ := rs_ofO hq
        obtain ⟨t, e4, hq3⟩ := rs_bind hq2
        refine ⟨A2, wipeE ρ2 vs, ds[i], ρ3, L.sr.grow ex, rx, e3, fun σ4 H4 S4 E4 n4 m4 => ?_⟩
        have hwp : wipe σ4 vs = wipe σ vs := by
          have z := S4.len
          have z2 := L.sr.len
          have z3 := asgT_len _ _ _ _ e3
          rw [z3] at z
          rw [wipe_length] at z2
          exact tgN_wipe hv (by omega) n4
        have d4 : ∀ a, H3 a ≠ none → H4 a ≠ none := fun a h => by
          by_cases ho : Own (wipe σ vs) (wipeE ρ2 vs) a
          · exact S4.hs.dom a (Own.there (L.sr.grow ex) ho).1
          · cases z : H3 a with
            | none => exact absurd z h
            | some o => rw [E4.keep a o z ho]; exact fun q => nomatch q
        refine ⟨hwp, A2, ρ3, S4, ?_⟩
        rw [e4]
        intro A5 H5 S5 E5
        obtain ⟨tb, ρ5⟩ := t
        cases tb with
        | false =>
          cases hq3
          have L' := L.next hD S1 ex E4 hwp m4 (asgT_nun _ _ _ _ e3) d4 S5 E5
          exact ⟨ρ5, A5, acc, ys, w.1, L', hw, by simpa using hz⟩
        | true =>
          obtain ⟨u, e5, hq4⟩ := rs_bind (show (evI C it1 ρ5).bind (fun q => (mapC (stp1 C tg1 c1 elt vs1) q.1 q.2).bind fun r => .ok (r.1, wipeE r.2 vs1)) = .ok q from hq3)
          obtain ⟨r1, e6, hq5⟩ := rs_bind hq4
          cases hq5
          refine ⟨A5, ρ5, S5, ?_⟩
          rw [e5]
          intro J1 A6 H6 S6 E6 I6
          obtain ⟨ds1, ρ6⟩ := u
          dsimp only at S6 E6 I6 e6
          have L' := L.next hD S1 ex E4 hwp m4 (asgT_nun _ _ _ _ e3) d4 S6 (E5.trans E6)
          have Lj : LcJ G Z σ ρ1 A1 H1 A6 H6 σ4 vs vs1 D ρ6 A6 H6 acc ys := ⟨S6.wipe vs1, L'.fr, Fr.refl, L'.keep, L'.own, fun a h => L.mono a (m4 a ((E5.trans E6).mono a (own_wipe h))), L'.dom, L'.nun, L'.dl, L'.da, L'.rep⟩
          refine ⟨fun j m H7 => m = ds1.length - j ∧ j ≤ ds1.length ∧ ∃ ρ7 A7 acc7 ys7 zs7, LcJ G Z σ ρ1 A1 H1 A6 H6 σ4 vs vs1 D ρ7 A7 H7 acc7 ys7 ∧ mapC (stp1 C tg1 c1 elt vs1) (ds1.drop j) ρ7 = .ok (zs7, r1.2) ∧ ys7 ++ (zs7 ++ w.1) = zs,
            ⟨_, rfl, Nat.zero_le _, ρ6, A6, acc, ys, r1.1, Lj, e6, by rw [← hz]⟩, ?_⟩
          rintro j m H7 ⟨rfl, hj, ρ7, A7, acc7, ys7, zs7, L7, hm7, hz7⟩
          by_cases hjt : j < ds1.length
          · have hd1 : ds1[j]? = some ds1[j] := List.getElem?_eq_getElem hjt
            rw [List.drop_eq_getElem_cons hjt] at hm7
            simp only [mapC] at hm7
            obtain ⟨q7, hq7, hm8⟩ := rs_bind hm7
            obtain ⟨w7, hw7, hm9⟩ := rs_bind hm8
            obtain ⟨z1, z2⟩ := Prod.mk.inj (show (q7.1.toList ++ w7.1, w7.2) = (zs7, r1.2) by injection hm9)
            subst z1
            obtain ⟨go1, yl1⟩ := (I6 A7 H7 L7.fri L7.sr.hs.dom j).1 _ hd1
            refine .inr ⟨go1, fun H' => ∃ ρ7 A7 acc7 ys7 zs7, LcJ G Z σ ρ1 A1 H1 A6 H6 σ4 vs vs1 D ρ7 A7 H' acc7 ys7 ∧ mapC (stp1 C tg1 c1 elt vs1) (ds1.drop (j + 1)) ρ7 = .ok (zs7, r1.2) ∧ ys7 ++ (zs7 ++ w.1) = zs,
              fun H' ⟨ρ8, A8, acc8, ys8, zs8, L8, m8, z8⟩ => ⟨ds1.length - (j + 1), by omega, rfl, hjt, ρ8, A8, acc8, ys8, zs8, L8, m8, z8⟩, fun x1 H8 y1 => ?_⟩
            obtain ⟨ex8, rx8⟩ := yl1 x1 H8 y1
            unfold stp1 at hq7
            obtain ⟨ρ9, e9, hq8⟩ := rs_ofO hq7
            obtain ⟨t9, e10, hq9⟩ := rs_bind hq8
            refine ⟨A7, wipeE ρ7 vs1, ds1[j], ρ9, L7.sr.grow ex8, rx8, e9, fun σ9 H9 S9 E9 n9 m9 => ?_⟩
            have hwp9 : wipe σ9 vs1 = wipe σ4 vs1 := by
              have z := S9.len
              have z2 := L7.sr.len
              have z3 := asgT_len _ _ _ _ e9
              rw [z3] at z
              rw [wipe_length] at z2
              exact tgN_wipe hv1 (by omega) n9
            have d9 : ∀ a, H8 a ≠ none → H9 a ≠ none := fun a h => by
              by_cases ho : Own (wipe σ4 vs1) (wipeE ρ7 vs1) a
              · exact S9.hs.dom a (Own.there (L7.sr.grow ex8) ho).1
              · cases z : H8 a with
                | none => exact absurd z h
                | some o => rw [E9.keep a o z ho]; exact fun q => nomatch q
            refine ⟨hwp9, A7, ρ9, S9, ?_⟩
            rw [e10]
            intro A10 H10 S10 E10
            obtain ⟨tb9, ρ10⟩ := t9
            cases tb9 with
            | false =>
              cases hq9
              have L9 := L7.turn hvv hD S1 ex8 E9 hwp9 m9 (asgT_nun _ _ _ _ e9) d9 S10 E10
              exact ⟨ρ10, A10, acc7, ys7, w7.1, L9, by rw [hw7, ← z2], by simpa using hz7⟩
            | true =>
              obtain ⟨z11, e11, hq10⟩ := rs_bind (show (evE C elt ρ10).bind (fun z => (ofO (tk z.2 z.1)).bind fun w => .ok (some w.1, w.2)) = .ok q7 from hq9)
              obtain ⟨u11, e12, hq11⟩ := rs_ofO hq10
              cases hq11
              refine ⟨A10, ρ10, S10, ?_⟩
              rw [e11]
              intro v A11 H11 S11 E11 R11 F11
              obtain ⟨u1, ρ11⟩ := u11
              obtain ⟨A12, S12, E12, R12⟩ := R11.tk S11 E11 F11 S10.hs.dom e12
              have L9 := L7.turn hvv hD S1 ex8 E9 hwp9 m9 (asgT_nun _ _ _ _ e9) d9 S12 (E10.trans E12)
              have hlen : ys7.length + 1 ≤ zs.length := by
                rw [← hz7]
                simp
              refine ⟨acc7, L9.dl, by rw [L9.rep.length, line_eq]; omega, ρ11, A12, acc7 ++ [v], ys7 ++ [u1], w7.1, L9.add hD S1 (fun _ => L'.da) R12, by rw [hw7, ← z2], ?_⟩
              rw [List.append_assoc]
              simpa using hz7
          · have ej : j = ds1.length := by omega
            subst ej
            rw [List.drop_length] at hm7
            simp only [mapC] at hm7
            obtain ⟨z1, z2⟩ := Prod.mk.inj (show (([] : List MP.D), ρ7) = (zs7, r1.2) by injection hm7)
            subst z1
            refine .inl ⟨(I6 A7 H7 L7.fri L7.sr.hs.dom _).2 (Nat.le_refl _), wipeE ρ7 vs1, A7, acc7, ys7, w.1, L7.back hvv hwp, ?_, by simpa using hz7⟩
            rw [z2]
            exact hw
      · have e0 : i = ds.length := by omega
        subst e0
        rw [List.drop_length] at hm2
        simp only [mapC2] at hm2
        cases hm2
        obtain ⟨S9, E9, R9⟩ := L.done hD S1 no
        refine .inl ⟨(I1 A2 H2 L.fr L.sr.hs.dom _).2 (Nat.le_refl _), ?_⟩
        have ez : ys = zs := by simpa using hz
        subst ez
        exact N3 (.ref D) A2 H2 S9 (E1.trans E9) R9 (fresh_back E1 ⟨D, rfl, hD⟩)
    · rw [if_neg hl] at N2'; exact N2'.elim
end
end MP
/-! MJ: calls of defs. Own work. -/
namespace MP
open PySem
open PySem.Spec
open PyProof.Rows
open L2
abbrev CXN : CXT := fun _ _ _ _ _ _ => False
abbrev EN : XK := fun _ _ _ => False
abbrev SpN := List V → Hp → VK → Prop
/-- a def's promise, where no repr runs around -/
structure FnG (P : Program) (w : World) (K : PySem.W.Frag) (mg : Str → Option Value) (base : Heap) (k : Nat) (f : Addr) (fd : FuncData) (ps : List Str) (sp : SpN) : Prop where
  long : ∀ vs H Q, sp vs H Q → vs.length = ps.length
  does : ∀ (B : Around) (out : List PySem.Env) (st : Shared) (H : Hp) (ag : Args) (us : List Value) (vs : List V) (Q : VK),
    Room k B → B.guards = some [] → Env0 P w K mg base B out st H → BindsTo st fd ag (ps.zip us) → Vals vs us → sp vs H Q →
    codeAny (model P w) B (.call (.ref f) ag) (CR CXN out P w H st Q EN) st
section
variable {P : Program} {w : World} {K : PySem.W.Frag} {mg : Str → Option Value} {base : Heap} {x qual : Str} {params : Arguments} {body : List Stmt} {scope : Scope} {dvs : List V} {kws : List (Str × V)} {f : Addr} {fd : FuncData}
theorem fnG_of {N ps : List Str} {k : Nat} {sp : SpN} (F : FunD K x qual params body scope dvs kws f fd) (S : FnScope N ps scope) (long : ∀ vs H Q, sp vs H Q → vs.length = ps.length)
    (hB : ∀ (cdv : Value) (B : Around) (out : List PySem.Env) (st : Shared) (H : Hp) (vs : List V) (Q : VK), Room k (B.deeper (envOfC qual scope st.heap.objs.size f cdv)) → (B.deeper (envOfC qual scope st.heap.objs.size f cdv)).guards = some [] → sp vs H Q →
      ∃ t, PSs (cxOf CXN P w K mg base N qual scope f cdv B out st H EN) body t ∧ t { nx := fun _ H' => Q .non H', rt := Q } (start N vs) H) : FnG P w K mg base (k + 1) f fd ps sp := by
  obtain ⟨oc, od, dV, kV, doc, pm, an, cdv, ct, osl, rfl, lk, hcd, _, _⟩ := F.ex
  refine ⟨long, fun B out st H ag us vs Q room gu en bi rv prom => ?_⟩
  have l1 := long _ _ _ prom
  have inK : K.In st.heap := en.mod.kin.keeps fun b o e => (en.bs b o e).1
  have nl : st.heap.NoLimit := en.mod.nolimit.keeps fun b o e => (en.bs b o e).1
  have kd : ∀ y ∈ ps.zip us, scope.names.lookup y.1 = some .local ∨ (scope.names.lookup y.1 = some .cell ∧ ((cellsFrom (st.heap.objs.size + 1) scope.names []).lookup y.1).isSome = true) := by
    rintro ⟨n, v⟩ hy
    cases S.par n (List.of_mem_zip hy).1 with
    | inl q => exact .inl q
    | inr q => exact .inr ⟨q, PySem.W.cellsFrom_some _ _ _ (.inl q)⟩
  refine codeAny_call_function room.depth (inK _ _ lk) rfl S.co S.gen rfl (PySem.W.codeRec_of inK hcd) (bi _ _ _ _ ?_)
  refine wpAny_newFunctionEnv_cells S.kind kd fun env henv st1 hin => ?_
  subst henv
  refine ⟨nl.keeps hin.toInCall.keep, codeAny_func ?_⟩
  obtain ⟨t, ht, hq⟩ := hB cdv B out st H vs Q (room.deeper _) (by simp [Around.deeper, pushGuards, gu]) prom
  have I := inv_start (CX := CXN) (P := P) (w := w) (mg := mg) (base := base) (qual := qual) (f := f) (cd := cdv) (A := B) (E := EN) S room.hd en l1 rv hin
  refine wpAny_mono (ht.run [] st1 (start N vs) H _ I hq) (fun fl s' hs => ?_) fun e s' hs => hs
  cases fl with
  | brk => obtain ⟨_, _, _, z⟩ := hs; exact z.elim
  | cont => obtain ⟨_, _, _, z⟩ := hs; exact z.elim
  | next =>
    obtain ⟨σ1, H1, J, z⟩ := hs
    exact ⟨V.non, H1, J.os, J.bare, J.base, J.hok, rfl, z⟩
  | ret u =>
    obtain ⟨v, σ1, H1, J, rel, z⟩ := hs
    exact ⟨v, H1, J.os, J.bare, J.base, J.hok, rel, z⟩
end
section
variable {X : Cx} {k : Nat} {f : Addr} {fd : FuncData} {ps : List Str} {sp : SpN} {x : Str} {p pos : Pos} {e : Expr} {es : List Expr} {t tk : TA}
theorem doG {pins : List (Addr × Obj)} {σ : L2.St} {H : Hp} {s : Shared} {Q : VK} {ag : List Value} {kw : List (Str × Value)} {us : List Value} {vs : List V} (F : FnG X.prog X.w X.K X.mg X.base k f fd ps sp) (room : Room k X.A) (gu : X.A.guards = some [])
    (I : Inv X pins σ H s) (bi : BindsTo s fd ⟨ag, kw⟩ (ps.zip us)) (r : Vals vs us) (h : sp vs H Q) : wpAny (model X.prog X.w) X.A (call (.ref f) ag kw) (EP X pins σ Q) X.xe s := by
  refine wpAny_call (codeAny_mono (F.does X.A X.stack s H ⟨ag, kw⟩ us vs Q room gu I.env0 bi r h) fun r s' hq => ?_)
  cases r with
  | error _ => exact False.elim hq
  | ok fl =>
    cases fl with
    | ret _ => exact I.after hq
    | _ => exact False.elim hq
/-- a call of a def, the reading -/
def tCallG (sp : SpN) (t : TA) : TE := fun σ H Q => t σ H fun vs H1 => sp vs H1 Q
theorem pe_callG (F : FnG X.prog X.w X.K X.mg X.base k f fd ps sp) (room : Room k X.A) (gu : X.A.guards = some []) (hg : Gl X x) (hm : X.mg x = some (.ref f)) (kp : PySem.W.keepIn X.K (.ref f) = true) (hb : Binds X.K fd ps [])
    (ha : PA X (e :: es) t) (hdb : (x == ("__debug__" : Str)) = false) (he : starEach (e :: es) X.env = (false, eval e X.env) :: starEach es X.env) (hpl : (backTo pos (starEach es X.env)).any (·.1) = false) :
    PE X (.Call (.Name x p) (e :: es) [] pos) (tCallG sp t) := by
  refine ⟨fun pins s σ H Q I h => wpAny_Call_Name_kw (ld_glob I hg hm ?_ hdb)⟩
  refine PySem.W.callWith_K (h₀ := X.base) I.ok.mod.kin kp (thn (ha.run pos pins s σ H _ I h) fun us s1 ⟨vs, H1, I1, r, q⟩ => ⟨I1.kIn, ?_⟩) he hpl
  have z := hb s1 us I1.kIn (by rw [List.append_nil, ← r.length]; exact F.long _ _ _ q)
  rw [List.append_nil] at z
  exact doG F room gu I1 z r q
theorem pe_callG0 (F : FnG X.prog X.w X.K X.mg X.base k f fd ps sp) (room : Room k X.A) (gu : X.A.guards = some []) (hg : Gl X x) (hm : X.mg x = some (.ref f)) (kp : PySem.W.keepIn X.K (.ref f) = true) (hb : Binds X.K fd ps [])
    (hdb : (x == ("__debug__" : Str)) = false) : PE X (.Call (.Name x p) [] [] pos) (tCallG sp tNil) := by
  refine ⟨fun pins s σ H Q I h => wpAny_Call_Name_kw (ld_glob I hg hm ?_ hdb)⟩
  refine PySem.W.callWith_K0 I.kIn kp ?_
  have z := hb s [] I.kIn (by rw [List.append_nil]; exact F.long _ _ _ h)
  exact doG (vs := []) (us := []) F room gu I z .nil h
end
/-! ### what the pure reading promises -/
def WrL : List V → List Sl → Addr → Prop
  | v :: vs, .ol _ _ :: as, a => v = .ref a ∨ WrL vs as a
  | _ :: vs, .d _ :: as, a => WrL vs as a
  | _ :: vs, .un :: as, a => WrL vs as a
  | _, _, _ => False
def ArgsR (K : PySem.W.Frag) (A : Ow) (H : Hp) : List V → List Sl → Prop
  | [], [] => True
  | v :: vs, .d x :: as => RepA K A H v x ∧ ArgsR K A H vs as
  | v :: vs, .ol p xs :: as => (p = true ∧ ∃ a ws, v = .ref a ∧ A a ∧ H a = some (.lst ws) ∧ RepAs K A H ws xs ∧ ¬ WrL vs as a) ∧ ArgsR K A H vs as
  | _, _ => False
def CtsR (K : PySem.W.Frag) (A : Ow) (H : Hp) : List V → List Sl → List (List MP.D) → Prop
  | v :: vs, .ol _ _ :: as, c :: cs => (∃ a ws, v = .ref a ∧ A a ∧ H a = some (.lst ws) ∧ RepAs K A H ws c) ∧ CtsR K A H vs as cs
  | _ :: vs, .d _ :: as, cs => CtsR K A H vs as cs
  | [], [], [] => True
  | _, _, _ => False
def AnsR (K : PySem.W.Frag) (H : Hp) (A' : Ow) (H' : Hp) (vs : List V) (as : List Sl) (v : V) : Op → Prop
  | .d x => RepA K A' H' v x
  | .nw xs => ∃ p ws, v = .ref p ∧ H p = none ∧ A' p ∧ H' p = some (.lst ws) ∧ RepAs K A' H' ws xs
  | .rf _ => False
/-- behind a def -/
structure Aft (K : PySem.W.Frag) (A : Ow) (H : Hp) (vs : List V) (as : List Sl) (A' : Ow) (H' : Hp) : Prop where
  fr : MP.Fr A H A' H'
  keep : ∀ a o, H a = some o → ¬ WrL vs as a → H' a = some o
  dom : ∀ a, H a ≠ none → H' a ≠ none
  sub : ∀ a, A a → A' a
  there : ∀ a, A' a → H' a ≠ none
def spF (K : PySem.W.Frag) (f : List Sl → Rs (Op × List (List MP.D))) : SpN := fun vs H Q => ∃ A as, ArgsR K A H vs as ∧ (∀ a, A a → H a ≠ none) ∧ match f as with
  | .ok r => ∀ v A' H', Aft K A H vs as A' H' → AnsR K H A' H' vs as v r.1 → CtsR K A' H' vs as r.2 → Q v H'
  | _ => False
theorem ArgsR.len {K : PySem.W.Frag} {A : Ow} {H : Hp} : ∀ {vs : List V} {as : List Sl}, ArgsR K A H vs as → vs.length = as.length
  | [], [], _ => rfl
  | v :: vs, .d x :: as, h => congrArg Nat.succ (ArgsR.len h.2)
  | v :: vs, .ol p xs :: as, h => congrArg Nat.succ (ArgsR.len h.2)
  | v :: vs, .un :: as, h => h.elim
  | [], _ :: _, h => h.elim
  | _ :: _, [], h => h.elim
/-! ### at the entry -/
def paV (vs : List V) (i : Nat) : Addr := match vs[i]? with
  | some (.ref a) => a
  | _ => default
theorem wr_get : ∀ {vs : List V} {as : List Sl} {i : Nat} {a : Addr} {p : Bool} {xs : List MP.D}, vs[i]? = some (.ref a) → as[i]? = some (.ol p xs) → WrL vs as a
  | v :: vs, s :: as, 0, a, p, xs, h1, h2 => by
    simp at h1 h2
    subst h1; subst h2
    exact .inl rfl
  | v :: vs, s :: as, i + 1, a, p, xs, h1, h2 => by
    have z := wr_get (i := i) (by simpa using h1) (by simpa using h2)
    cases s with
    | un => exact z
    | d _ => exact z
    | ol _ _ => exact .inr z
  | [], _, i, _, _, _, h1, _ => by simp at h1
  | _ :: _, [], i, _, _, _, _, h2 => by simp at h2
section
variable {K : PySem.W.Frag} {A : Ow} {H : Hp}
theorem args_get : ∀ {vs : List V} {as : List Sl} {i : Nat} {v : V} {s : Sl}, ArgsR K A H vs as → vs[i]? = some v → as[i]? = some s →
    (match s with
    | .un => False
    | .d x => RepA K A H v x
    | .ol p xs => p = true ∧ ∃ a ws, v = .ref a ∧ A a ∧ H a = some (.lst ws) ∧ RepAs K A H ws xs)
  | v :: vs, s :: as, 0, u, t, h, h1, h2 => by
    simp at h1 h2
    subst h1; subst h2
    cases s with
    | un => exact h.elim
    | d x => exact h.1
    | ol p xs =>
      obtain ⟨⟨e, a, ws, r1, r2, r3, r4, _⟩, _⟩ := h
      exact ⟨e, a, ws, r1, r2, r3, r4⟩
  | v :: vs, s :: as, i + 1, u, t, h, h1, h2 => by
    have h' : ArgsR K A H vs as := by
      cases s with
      | un => exact h.elim
      | d x => exact h.2
      | ol p xs => exact h.2
    exact args_get (i := i) h' (by simpa using h1) (by simpa using h2)
  | [], _, i, _, _, _, h1, _ => by simp at h1
  | _ :: _, [], i, _, _, _, _, h2 => by simp at h2
theorem args_inj : ∀ {vs : List V} {as : List Sl} {i j : Nat} {a : Addr} {p q : Bool} {xs ys : List MP.D}, ArgsR K A H vs as → i < j → as[i]? = some (.ol p xs) → as[j]? = some (.ol q ys) → vs[i]? = some (.ref a) → vs[j]? ≠ some (.ref a)
  | v :: vs, s :: as, 0, j + 1, a, p, q, xs, ys, h, _, h1, h2, h3 => by
    simp at h1 h3
    subst h1; subst h3
    obtain ⟨⟨_, b, ws, r1, _, _, _, r5⟩, _⟩ := h
    cases r1
    intro z
    exact r5 (wr_get (i := j) (by simpa using z) (by simpa using h2))
  | v :: vs, s :: as, i + 1, j + 1, a, p, q, xs, ys, h, hij, h1, h2, h3 => by
    have h' : ArgsR K A H vs as := by
      cases s with
      | un => exact h.elim
      | d x => exact h.2
      | ol p xs => exact h.2
    have z := args_inj (i := i) (j := j) h' (by omega) (by simpa using h1) (by simpa using h2) (by simpa using h3)
    simpa using z
  | [], _, i, j, _, _, _, _, _, _, _, _, _, h3 => by simp at h3
  | _ :: _, [], i, j, _, _, _, _, _, _, _, h1, _, _ => by simp at h1
  | _ :: _, _ :: _, 0, 0, _, _, _, _, _, _, hij, _, _, _ => by omega
  | _ :: _, _ :: _, i + 1, 0, _, _, _, _, _, _, hij, _, _, _ => by omega
theorem wr_A : ∀ {vs : List V} {as : List Sl} {a : Addr}, ArgsR K A H vs as → WrL vs as a → A a
  | v :: vs, .d x :: as, a, h, z => wr_A h.2 z
  | v :: vs, .ol p xs :: as, a, h, z => by
    rcases z with z | z
    · obtain ⟨⟨_, b, ws, r1, r2, _⟩, _⟩ := h
      rw [r1] at z
      cases z
      exact r2
    · exact wr_A h.2 z
  | v :: vs, .un :: as, a, h, z => h.elim
  | [], _, a, h, z => by cases z
  | _ :: _, [], a, h, z => by cases z
theorem start_get {N : List Str} {vs : List V} {i : Nat} {v : V} (h : (start N vs)[i]? = some (some v)) : vs[i]? = some v := by
  unfold L2.start at h
  by_cases hi : i < vs.length
  · rw [List.getElem?_append_left (by simpa using hi), List.getElem?_map] at h
    cases e : vs[i]? with
    | none => rw [e] at h; cases h
    | some u => rw [e] at h; cases h; rfl
  · rw [List.getElem?_append_right (by simpa using hi), List.getElem?_replicate] at h
    split at h <;> cases h
theorem startE_at {n : Nat} {as : List Sl} {i : Nat} {s : Sl} (h : (startE n as).at i = s) (hs : s ≠ .un) : as[i]? = some s := by
  unfold startE Env.at at h
  rw [List.getD_eq_getElem?_getD] at h
  by_cases hi : i < as.length
  · rw [List.getElem?_append_left hi] at h
    rw [List.getElem?_eq_getElem hi] at h ⊢
    exact congrArg some h
  · rw [List.getElem?_append_right (by omega), List.getElem?_replicate] at h
    split at h <;> exact absurd h.symm hs
theorem entry {N : List Str} {vs : List V} {as : List Sl} (h : ArgsR K A H vs as) (hA : ∀ a, A a → H a ≠ none) (hn : as.length ≤ N.length) :
    SR K ⟨A, H, WrL vs as, paV vs⟩ A (start N vs) H (startE N.length as) := by
  have hl := h.len
  refine ⟨⟨hA, fun _ h => h, fun _ _ h _ => h, fun _ h => h, hA, fun a z => wr_A h z⟩, by simp [startE, L2.start]; omega, fun i hi => ?_, fun i j a p q xs ys hij h1 h2 h3 h4 => ?_⟩
  · cases e : (startE N.length as).at i with
    | un => trivial
    | d x =>
      have e1 := startE_at e fun z => nomatch z
      have hil : i < vs.length := by rw [hl]; exact (List.getElem?_eq_some_iff.mp e1).1
      have e2 : vs[i]? = some vs[i] := List.getElem?_eq_getElem hil
      exact ⟨vs[i], by unfold L2.start; rw [List.getD_eq_getElem?_getD, List.getElem?_append_left (by simpa using hil), List.getElem?_map, e2]; rfl, args_get h e2 e1⟩
    | ol p xs =>
      have e1 := startE_at e fun z => nomatch z
      have hil : i < vs.length := by rw [hl]; exact (List.getElem?_eq_some_iff.mp e1).1
      have e2 : vs[i]? = some vs[i] := List.getElem?_eq_getElem hil
      obtain ⟨rfl, a, ws, r1, r2, r3, r4⟩ := args_get h e2 e1
      refine ⟨a, ws, by unfold L2.start; rw [List.getD_eq_getElem?_getD, List.getElem?_append_left (by simpa using hil), List.getElem?_map, e2, r1]; rfl, r2, r3, r4, ?_, ?_⟩
      · show a = paV vs i
        unfold paV
        rw [e2, r1]
      · exact wr_get (by rw [e2, r1]) e1
  · have a1 := startE_at h1 fun z => nomatch z
    have a2 := startE_at h2 fun z => nomatch z
    have b1 := start_get h3
    have b2 := start_get h4
    rcases Nat.lt_or_gt_of_ne hij with z | z
    · exact args_inj h z a1 a2 b1 b2
    · exact args_inj h z a2 a1 b2 b1
end
end MP
/-! MK: a def keeps its promise; calls of defs. Own work. -/
namespace MP
open PySem
open PySem.Spec
open PyProof.Rows
open L2
abbrev W0' : WX := fun _ _ _ _ => False
section
variable {K : PySem.W.Frag} {A A' : Ow} {H H' : Hp}
theorem cts_of : ∀ (io : List Bool) (vs : List V) (as : List Sl) (ρ : Env) (cs : List (List MP.D)), alB io as = true → vs.length = as.length → outs io ρ = some cs →
    (∀ (i : Nat) (xs : List MP.D) (v : V) (p : Bool) (ys : List MP.D), ρ[i]? = some (Sl.ol true xs) → as[i]? = some (Sl.ol p ys) → vs[i]? = some v → ∃ a ws, v = V.ref a ∧ A' a ∧ H' a = some (.lst ws) ∧ RepAs K A' H' ws xs) → CtsR K A' H' vs as cs
  | true :: r, v :: vs, .ol true ys :: as, s :: ρ, cs, ha, hl, ho, h => by
    cases s with
    | ol p xs =>
      cases p with
      | true =>
        simp only [outs, Option.map_eq_some_iff] at ho
        obtain ⟨c, h1, rfl⟩ := ho
        exact ⟨h 0 xs v true ys rfl rfl rfl, cts_of r vs as ρ c ha (by simpa using hl) h1 fun i xs v p ys a b c => h (i + 1) xs v p ys (by simpa using a) (by simpa using b) (by simpa using c)⟩
      | false => simp [outs] at ho
    | _ => simp [outs] at ho
  | false :: r, v :: vs, .d y :: as, s :: ρ, cs, ha, hl, ho, h => by
    simp only [outs] at ho
    exact cts_of r vs as ρ cs ha (by simpa using hl) ho fun i xs v p ys a b c => h (i + 1) xs v p ys (by simpa using a) (by simpa using b) (by simpa using c)
  | [], [], [], ρ, cs, ha, hl, ho, h => by
    simp only [outs] at ho
    cases ho
    trivial
  | [], v :: vs, .d y :: as, ρ, cs, ha, hl, ho, h => by
    simp only [outs] at ho
    cases ho
    exact cts_of [] vs as [] [] ha (by simpa using hl) (by simp [outs]) fun i xs v p ys a b c => by simp at a
  | true :: r, v :: vs, .ol true ys :: as, [], cs, ha, hl, ho, h => by simp [outs] at ho
  | false :: r, v :: vs, .d y :: as, [], cs, ha, hl, ho, h => by simp [outs] at ho
  | [], [], _ :: _, _, _, _, hl, _, _ => by simp at hl
  | [], _ :: _, [], _, _, _, hl, _, _ => by simp at hl
  | _ :: _, _, [], _, _, ha, _, _, _ => by simp [alB] at ha
  | _ :: _, [], _ :: _, _, _, _, hl, _, _ => by simp at hl
  | true :: _, _, .d _ :: _, _, _, ha, _, _, _ => by simp [alB] at ha
  | true :: _, _, .un :: _, _, _, ha, _, _, _ => by simp [alB] at ha
  | true :: _, _, .ol false _ :: _, _, _, ha, _, _, _ => by simp [alB] at ha
  | false :: _, _, .ol _ _ :: _, _, _, ha, _, _, _ => by simp [alB] at ha
  | false :: _, _, .un :: _, _, _, ha, _, _, _ => by simp [alB] at ha
  | [], _, .ol _ _ :: _, _, _, ha, _, _, _ => by simp [alB] at ha
  | [], _, .un :: _, _, _, ha, _, _, _ => by simp [alB] at ha
theorem spF_run {G : Gd} {C : Ctx} {F : Fd} {X : Cx} {body : List Stmt} {N : List Str} {vs : List V} {H : Hp} {Q : VK} (hN : N.length = F.n) (hnp : F.np ≤ F.n) (hb : ∀ Z, PSs X body (tS G Z W0' (exC C F.body)))
    (prom : spF G.K (runF C F) vs H Q) : ∃ t, PSs X body t ∧ t { nx := fun _ H' => Q .non H', rt := Q } (L2.start N vs) H := by
  obtain ⟨A, as, ha, hA, hm⟩ := prom
  unfold runF at hm
  by_cases hc : (alB F.io as && as.length == F.np) = true
  · rw [if_pos hc] at hm
    obtain ⟨c1, c2⟩ := Bool.and_eq_true_iff.mp hc
    have c3 : as.length = F.np := of_decide_eq_true c2
    have S0 := entry (N := N) ha hA (by rw [hN]; omega)
    rw [hN] at S0
    refine ⟨_, hb ⟨A, H, WrL vs as, paV vs⟩, A, startE F.n as, S0, ?_⟩
    have cts : ∀ {ρ' : Env} {σ' : L2.St} {A' : Ow} {H' : Hp} {cs : List (List MP.D)}, SR G.K ⟨A, H, WrL vs as, paV vs⟩ A' σ' H' ρ' → outs F.io ρ' = some cs → CtsR G.K A' H' vs as cs := fun {ρ' σ' A' H' cs} S ho =>
      cts_of F.io vs as ρ' cs c1 ha.len ho fun i xs v p ys e1 e2 e3 => by
        have e4 : ρ'.at i = .ol true xs := by unfold Env.at; rw [List.getD_eq_getElem?_getD, e1]; rfl
        obtain ⟨_, a, ws, r1, _⟩ := args_get ha e3 e2
        obtain ⟨b, zs, q1, q2, q3, q4, q5, _⟩ := S.olist e4
        have q5' : b = paV vs i := q5.1
        have e5 : paV vs i = a := by unfold paV; rw [e3, r1]
        rw [q5', e5] at q2 q3
        exact ⟨a, zs, r1, q2, q3, q4⟩
    have aft : ∀ {ρ' : Env} {σ' : L2.St} {A' : Ow} {H' : Hp}, SR G.K ⟨A, H, WrL vs as, paV vs⟩ A' σ' H' ρ' → MP.Fr A H A' H' → Aft G.K A H vs as A' H' := fun {ρ' σ' A' H'} S f => ⟨f, S.hs.old, S.hs.oldd, S.hs.sub, S.hs.dom⟩
    cases hr : exC C F.body (startE F.n as) with
    | st => rw [hr] at hm; exact hm.elim
    | ex c x => rw [hr] at hm; exact hm.elim
    | ok q =>
      rw [hr] at hm
      simp only [Rs.bind_ok] at hm
      obtain ⟨fl, ρ'⟩ := q
      cases fl with
      | bk => exact hm.elim
      | ct => exact hm.elim
      | nx =>
        simp only [endF] at hm
        cases ho : outs F.io ρ' with
        | none => rw [ho] at hm; exact hm.elim
        | some cs =>
          rw [ho] at hm
          exact fun σ' A' H' S f => hm .non A' H' (aft S f) .non (cts S ho)
      | rt o =>
        cases o with
        | rf i => exact hm.elim
        | d x =>
          simp only [endF] at hm
          cases ho : outs F.io ρ' with
          | none => rw [ho] at hm; exact hm.elim
          | some cs =>
            rw [ho] at hm
            exact fun v σ' A' H' S f r => hm v A' H' (aft S f) r (cts S ho)
        | nw xs =>
          simp only [endF] at hm
          cases ho : outs F.io ρ' with
          | none => rw [ho] at hm; exact hm.elim
          | some cs =>
            rw [ho] at hm
            refine fun v σ' A' H' S f r => hm v A' H' (aft S f) ?_ (cts S ho)
            obtain ⟨p, ws, r1, r2, r3, r4, r5, r6⟩ := r
            exact ⟨p, ws, r1, r6, r2, r4, r5⟩
  · rw [if_neg hc] at hm
    exact hm.elim
end
/-! ### arguments -/
def ArgV (K : PySem.W.Frag) (Z : Act) (σ : L2.St) (ρ : Env) (A : Ow) (Hb H : Hp) : List V → List Sl → List (Option Nat) → Prop
  | [], [], [] => True
  | v :: vs, .d x :: as, is => RepA K A H v x ∧ ArgV K Z σ ρ A Hb H vs as is
  | v :: vs, .ol p xs :: as, some i :: is => (p = true ∧ σ[i]? = some (some v) ∧ (∃ q, ρ.at i = .ol q xs) ∧ some i ∉ is) ∧ ArgV K Z σ ρ A Hb H vs as is
  | v :: vs, .ol p xs :: as, none :: is => (p = true ∧ none ∉ is ∧ OpV K Z σ ρ A H v (.nw xs) ∧ Fresh Hb v (.nw xs)) ∧ ArgV K Z σ ρ A Hb H vs as is
  | _, _, _ => False
section
variable {G : Gd} {Z : Act} {W : WX} {C : Ctx}
theorem ArgV.base {K : PySem.W.Frag} {σ : L2.St} {ρ : Env} {A : Ow} {Hb Hc H : Hp} (h0 : ∀ a, Hb a ≠ none → Hc a ≠ none) : ∀ {vs : List V} {as : List Sl} {is : List (Option Nat)}, ArgV K Z σ ρ A Hc H vs as is → ArgV K Z σ ρ A Hb H vs as is
  | [], [], [], _ => trivial
  | v :: vs, .d x :: as, is, h => ⟨h.1, ArgV.base h0 h.2⟩
  | v :: vs, .ol p xs :: as, some i :: is, h => ⟨h.1, ArgV.base h0 h.2⟩
  | v :: vs, .ol p xs :: as, none :: is, h => by
    obtain ⟨⟨h1, h2, h3, q, e, h4⟩, h5⟩ := h
    exact ⟨⟨h1, h2, h3, q, e, Classical.byContradiction fun z => h0 q z h4⟩, ArgV.base h0 h5⟩
  | _ :: _, .ol _ _ :: _, [], h => h.elim
  | _ :: _, .un :: _, _, h => by cases h
  | [], [], _ :: _, h => by cases h
  | [], _ :: _, _, h => by cases h
  | _ :: _, [], _, h => by cases h
def tCs (G : Gd) (Z : Act) (W : WX) (f : Env → Rs (List Sl × List (Option Nat) × Env)) : TA := fun σ H Q => ∃ A ρ, SR G.K Z A σ H ρ ∧ Out G Z W σ A H (f ρ) fun r => ∀ vs A' H', SR G.K Z A' σ H' r.2.2 → Ev σ ρ A H r.2.2 A' H' → ArgV G.K Z σ r.2.2 A' H H' vs r.1 r.2.1 → Q vs H'
theorem c_nil {bs : List Bool} : ∀ σ H Q, tCs G Z W (evC C bs .nil) σ H Q → tNil σ H Q := fun σ H Q ⟨A, ρ, S, N⟩ => by
  have e0 : evC C bs .nil ρ = .ok ([], [], ρ) := by
    cases bs with
    | nil => simp only [evC]
    | cons b bs => cases b <;> simp only [evC]
  rw [e0] at N
  exact N.ok [] A H S Ev.refl trivial
theorem c_consT {bs : List Bool} {a r : Ex} : ∀ σ H Q, tCs G Z W (evC C (true :: bs) (.cons a r)) σ H Q → tCons (tE G Z W (evE C a)) (tCs G Z W (evC C bs r)) σ H Q := fun σ H Q ⟨A, ρ, S, N⟩ => by
  simp only [evC] at N
  refine ⟨A, ρ, S, N.bind.mono fun x e N1 => fun v A1 H1 S1 E1 R1 F1 => ?_⟩
  obtain ⟨o, ρ1⟩ := x
  cases o with
  | d x => exact N1.elim
  | nw xs =>
    dsimp only at N1
    refine ⟨A1, ρ1, S1, (N1.bind.move E1.fr).mono fun y e N2 => fun vs A2 H2 S2 E2 R2 => ?_⟩
    split at N2
    · exact N2.elim
    · rename_i hi
      exact N2.ok (v :: vs) A2 H2 S2 (E1.trans E2) ⟨⟨rfl, hi, OpV.step R1 E2, F1⟩, R2.base fun _ => E1.dom _⟩
  | rf i =>
    dsimp only at N1
    refine ⟨A1, ρ1, S1, (N1.bind.move E1.fr).mono fun y e N2 => fun vs A2 H2 S2 E2 R2 => ?_⟩
    cases q : y.2.2.at i with
    | un => rw [q] at N2; exact N2.elim
    | d w => rw [q] at N2; exact N2.elim
    | ol p xs =>
      rw [q] at N2
      dsimp only at N2
      split at N2
      · exact N2.elim
      · rename_i hi
        exact N2.ok (v :: vs) A2 H2 S2 (E1.trans E2) ⟨⟨rfl, R1.1, ⟨p, q⟩, hi⟩, R2.base fun _ => E1.dom _⟩
theorem c_consF {bs : List Bool} {a r : Ex} (hb : bs.head? ≠ some true) : ∀ σ H Q, tCs G Z W (evC C bs (.cons a r)) σ H Q → tCons (tE G Z W (evE C a)) (tCs G Z W (evC C bs.tail r)) σ H Q := fun σ H Q ⟨A, ρ, S, N⟩ => by
  have e0 : evC C bs (.cons a r) ρ = (evE C a ρ).bind fun x => (ofO (tk x.2 x.1)).bind fun y => (evC C bs.tail r y.2).bind fun z => .ok (.d y.1 :: z.1, z.2) := by
    cases bs with
    | nil => simp only [evC]
    | cons b bs =>
      cases b with
      | true => exact absurd rfl hb
      | false => simp only [evC]
  rw [e0] at N
  refine ⟨A, ρ, S, N.bind.mono fun x e N1 => fun v A1 H1 S1 E1 R1 F1 => ?_⟩
  obtain ⟨y, e2, N2⟩ := N1.ofO
  obtain ⟨A2, S2, E2, R2⟩ := R1.tk S1 E1 F1 S.hs.dom e2
  refine ⟨A2, y.2, S2, (N2.bind.move E2.fr).mono fun z e N3 => fun vs A3 H3 S3 E3 R3 => ?_⟩
  exact N3.ok (v :: vs) A3 H3 S3 (E2.trans E3) ⟨RepA.mono E3.fr R2, R3.base fun _ => E2.dom _⟩

/-! ### the call -/
section
variable {A A' A1 : Ow} {σ : L2.St} {ρ ρ' ρ1 : Env} {H H' H1 : Hp}
variable {Hb : Hp}
theorem argv_wr : ∀ {vs : List V} {as : List Sl} {is : List (Option Nat)} {a : Addr}, ArgV G.K Z σ ρ A Hb H vs as is → WrL vs as a → (∃ j q xs, some j ∈ is ∧ σ[j]? = some (some (.ref a)) ∧ ρ.at j = .ol q xs) ∨ (none ∈ is ∧ Hb a = none ∧ Z.H0 a = none ∧ ¬ Own σ ρ a)
  | v :: vs, .d x :: as, is, a, h, z => argv_wr h.2 z
  | v :: vs, .ol p xs :: as, some i :: is, a, h, z => by
    obtain ⟨⟨_, h1, ⟨q, h2⟩, h3⟩, h4⟩ := h
    rcases z with z | z
    · subst z
      exact .inl ⟨i, q, xs, List.mem_cons_self, h1, h2⟩
    · rcases argv_wr h4 z with ⟨j, q, ys, k1, k2, k3⟩ | ⟨k1, k2⟩
      · exact .inl ⟨j, q, ys, List.mem_cons_of_mem _ k1, k2, k3⟩
      · exact .inr ⟨List.mem_cons_of_mem _ k1, k2⟩
  | v :: vs, .ol p xs :: as, none :: is, a, h, z => by
    obtain ⟨⟨_, h1, h2, q, e, h3⟩, h4⟩ := h
    rcases z with z | z
    · subst z
      cases e
      obtain ⟨p', ws, e2, r1, r2, r3, r4, r5⟩ := h2
      cases e2
      exact .inr ⟨List.mem_cons_self, h3, r5, r2⟩
    · rcases argv_wr h4 z with ⟨j, q, ys, k1, k2, k3⟩ | ⟨k1, k2⟩
      · exact .inl ⟨j, q, ys, List.mem_cons_of_mem _ k1, k2, k3⟩
      · exact absurd k1 h1
  | _ :: _, .ol _ _ :: _, [], _, h, _ => h.elim
  | _ :: _, .un :: _, _, _, h, _ => by cases h
  | [], [], _, _, _, z => by cases z
  | [], _ :: _, _, _, _, z => by cases z
  | _ :: _, [], _, _, _, z => by cases z
theorem argv_args (S : SR G.K Z A σ H ρ) : ∀ {vs : List V} {as : List Sl} {is : List (Option Nat)}, ArgV G.K Z σ ρ A Hb H vs as is → ArgsR G.K A H vs as
  | [], [], [], _ => trivial
  | v :: vs, .d x :: as, is, h => ⟨h.1, argv_args S h.2⟩
  | v :: vs, .ol p xs :: as, some i :: is, h => by
    obtain ⟨⟨h0, h1, ⟨q, h2⟩, h3⟩, h4⟩ := h
    obtain ⟨a, ws, e, r1, r2, r3, _, r5⟩ := S.olist h2
    rw [h1] at e
    cases e
    refine ⟨⟨h0, a, ws, rfl, r1, r2, r3, fun z => ?_⟩, argv_args S h4⟩
    rcases argv_wr h4 z with ⟨j, q', ys, k1, k2, k3⟩ | ⟨_, _, _, k⟩
    · exact S.inj i j a q q' xs ys (fun z => h3 (by rw [z]; exact k1)) h2 k3 h1 k2
    · exact k r5
  | v :: vs, .ol p xs :: as, none :: is, h => by
    obtain ⟨⟨h0, h1, h2, h3⟩, h4⟩ := h
    obtain ⟨a, ws, rfl, r1, r2, r3, r4, r5⟩ := h2
    refine ⟨⟨h0, a, ws, rfl, r1, r3, r4, fun z => ?_⟩, argv_args S h4⟩
    rcases argv_wr h4 z with ⟨j, q', ys, k1, k2, k3⟩ | ⟨k, _⟩
    · exact r2 ⟨j, q', ys, k3, k2⟩
    · exact h1 k
  | _ :: _, .ol _ _ :: _, [], h => h.elim
  | _ :: _, .un :: _, _, h => by cases h
  | [], [], _ :: _, h => by cases h
  | [], _ :: _, _, h => by cases h
  | _ :: _, [], _, h => by cases h
theorem backs_go : ∀ {vs : List V} {as : List Sl} {is : List (Option Nat)} {cs : List (List MP.D)} {ρ0 ρ ρ' : Env}, ArgV G.K Z σ ρ0 A Hb H vs as is → CtsR G.K A' H' vs as cs → backs is cs ρ = some ρ' →
    ρ'.length = ρ.length ∧ (∀ j, some j ∉ is → ρ'.at j = ρ.at j) ∧ ∀ j, some j ∈ is → ∃ p xs c a ws, ρ.at j = .ol p xs ∧ ρ'.at j = .ol p c ∧ σ[j]? = some (some (.ref a)) ∧ A' a ∧ H' a = some (.lst ws) ∧ RepAs G.K A' H' ws c
  | [], [], [], [], ρ0, ρ, ρ', _, _, e => by
    simp only [backs] at e
    cases e
    exact ⟨rfl, fun _ _ => rfl, fun j h => by cases h⟩
  | v :: vs, .d x :: as, is, cs, ρ0, ρ, ρ', h, hc, e => backs_go h.2 hc e
  | v :: vs, .ol p xs :: as, none :: is, c :: cs, ρ0, ρ, ρ', h, hc, e => by
    simp only [backs] at e
    obtain ⟨l1, l2, l3⟩ := backs_go h.2 hc.2 e
    exact ⟨l1, fun j hj => l2 j fun z => hj (List.mem_cons_of_mem _ z), fun j hj => l3 j ((List.mem_cons.mp hj).resolve_left fun z => nomatch z)⟩
  | v :: vs, .ol p xs :: as, some i :: is, c :: cs, ρ0, ρ, ρ', h, hc, e => by
    obtain ⟨⟨h0, h1, ⟨q, h2⟩, h3⟩, h4⟩ := h
    obtain ⟨⟨a, ws, rfl, k1, k2, k3⟩, hc⟩ := hc
    simp only [backs] at e
    cases q2 : ρ.at i with
    | un => rw [q2] at e; cases e
    | d _ => rw [q2] at e; cases e
    | ol p2 ys =>
      rw [q2] at e
      obtain ⟨l1, l2, l3⟩ := backs_go h4 hc e
      have hi : i < ρ.length := at_lt q2 fun z => nomatch z
      rw [List.length_set] at l1
      refine ⟨l1, fun j hj => ?_, fun j hj => ?_⟩
      · rw [l2 j fun z => hj (List.mem_cons_of_mem _ z)]
        exact at_set_ne fun z => hj (by rw [z]; exact List.mem_cons_self)
      · by_cases z : j = i
        · subst z
          exact ⟨p2, ys, c, a, ws, q2, by rw [l2 j h3, at_set_eq hi], h1, k1, k2, k3⟩
        · obtain ⟨p3, zs, c3, a3, w3, m1, m2⟩ := l3 j ((List.mem_cons.mp hj).resolve_left fun y => z (by cases y; rfl))
          rw [at_set_ne fun y => z y.symm] at m1
          exact ⟨p3, zs, c3, a3, w3, m1, m2⟩
  | _ :: _, .ol _ _ :: _, [], _, _, _, _, h, _, _ => h.elim
  | _ :: _, .ol _ _ :: _, _ :: _, [], _, _, _, _, hc, _ => hc.elim
  | _ :: _, .un :: _, _, _, _, _, _, h, _, _ => by cases h
  | [], [], _ :: _, _, _, _, _, h, _, _ => by cases h
  | [], [], [], _ :: _, _, _, _, _, hc, _ => by cases hc
  | [], _ :: _, _, _, _, _, _, h, _, _ => by cases h
  | _ :: _, [], _, _, _, _, _, h, _, _ => by cases h
/-- behind the call -/
theorem call_go {vs : List V} {as : List Sl} {is : List (Option Nat)} {cs : List (List MP.D)} {o : Op} {v : V} (E1 : Ev σ ρ A H ρ1 A1 H1) (S : SR G.K Z A1 σ H1 ρ1) (r : ArgV G.K Z σ ρ1 A1 H H1 vs as is) (a : Aft G.K A1 H1 vs as A' H') (ans : AnsR G.K H1 A' H' vs as v o) (ct : CtsR G.K A' H' vs as cs) (e : backs is cs ρ1 = some ρ') :
    SR G.K Z A' σ H' ρ' ∧ Ev σ ρ A H ρ' A' H' ∧ OpV G.K Z σ ρ' A' H' v o ∧ Fresh H1 v o := by
  obtain ⟨b1, b2, b3⟩ := backs_go r ct e
  have wo : ∀ b, WrL vs as b → Own σ ρ1 b ∨ (H b = none ∧ Z.H0 b = none) := fun b z => by
    rcases argv_wr r z with ⟨j, q, xs, _, k2, k3⟩ | ⟨_, k1, k2, _⟩
    · exact .inl ⟨j, q, xs, k3, k2⟩
    · exact .inr ⟨k1, k2⟩
  have ol : ∀ j p c, ρ'.at j = .ol p c → ∃ xs, ρ1.at j = .ol p xs := fun j p c h => by
    by_cases hj : some j ∈ is
    · obtain ⟨p2, xs, c2, _, _, m1, m2, _⟩ := b3 j hj
      rw [h] at m2
      cases m2
      exact ⟨xs, m1⟩
    · rw [b2 j hj] at h
      exact ⟨c, h⟩
  have mo : ∀ b, Own σ ρ' b → Own σ ρ1 b := fun b ⟨j, p, c, h1, h2⟩ => by
    obtain ⟨xs, h3⟩ := ol j p c h1
    exact ⟨j, p, xs, h3, h2⟩
  refine ⟨⟨⟨a.there, fun b h => a.sub b (S.hs.sub b h), fun b o h n => a.keep b o (S.hs.old b o h n) fun z => ?_, fun b h => a.dom b (S.hs.oldd b h), S.hs.dom0, S.hs.wr0⟩, b1.trans S.len, fun j hj => ?_, fun i j b p q xs ys hij h1 h2 h3 => ?_⟩,
    ⟨E1.fr.trans a.fr, fun b o h n => a.keep b o (E1.keep b o h n) fun z => ?_, fun b h n => a.sub b (E1.own b h n), fun b h => E1.mono b (mo b h), fun b h => a.dom b (E1.dom b h), fun j h => ?_⟩, ?_, ?_⟩
  · rcases argv_wr r z with ⟨j, q, xs, _, k2, k3⟩ | ⟨_, _, k2, _⟩
    · obtain ⟨b', ws, e1, _, _, _, r4, _⟩ := S.olist k3
      rw [k2] at e1
      cases e1
      cases q with
      | true => exact n r4.2
      | false =>
        have r4' : Z.H0 b = none := r4
        rw [h] at r4'
        cases r4'
    · rw [h] at k2
      cases k2
  · by_cases hi : some j ∈ is
    · obtain ⟨p2, xs, c2, b, ws, m1, m2, m3, m4, m5, m6⟩ := b3 j hi
      rw [m2]
      obtain ⟨b', ws', e1, _, _, _, r4, _⟩ := S.olist m1
      rw [m3] at e1
      cases e1
      exact ⟨b, ws, some_getD m3, m4, m5, m6, r4⟩
    · rw [b2 j hi]
      refine (S.sl j hj).mono a.fr fun p xs b h1 h2 => ?_
      have q := S.sl j hj
      rw [h1] at q
      obtain ⟨b', ws, e1, r1, r2, _⟩ := q
      rw [h2] at e1
      cases e1
      refine ⟨a.sub b r1, ?_⟩
      rw [r2]
      refine a.keep b _ r2 fun z => ?_
      rcases argv_wr r z with ⟨i, q, ys, k1, k2, k3⟩ | ⟨_, _, _, k⟩
      · exact S.inj j i b p q xs ys (fun z => hi (by rw [z]; exact k1)) h1 k3 (getD_some h2) k2
      · exact k ⟨j, p, xs, h1, getD_some h2⟩
  · obtain ⟨_, k1⟩ := ol i p xs h1
    obtain ⟨_, k2⟩ := ol j q ys h2
    exact S.inj i j b p q _ _ hij k1 k2 h3
  · rcases wo b z with y | ⟨y, _⟩
    · exact n (E1.mono b y)
    · rw [h] at y
      cases y
  · have h' := E1.nun j h
    by_cases hj : some j ∈ is
    · obtain ⟨p2, xs, c2, _, _, _, m2, _⟩ := b3 j hj
      rw [m2]
      exact fun z => nomatch z
    · rw [b2 j hj]; exact h'
  · cases o with
    | d x => exact ans
    | rf i => exact ans.elim
    | nw xs =>
      obtain ⟨p, ws, rfl, n1, n2, n3, n4⟩ := ans
      refine ⟨p, ws, rfl, n2, fun z => ?_, n3, n4, ?_⟩
      · obtain ⟨_, zs, z2⟩ := Own.there S (mo p z)
        rw [n1] at z2
        cases z2
      · cases z : Z.H0 p with
        | none => rfl
        | some u => exact absurd n1 (S.hs.oldd p (by rw [z]; exact fun q => nomatch q))
  · cases o with
    | d x => trivial
    | rf i => trivial
    | nw xs =>
      obtain ⟨p, ws, rfl, n1, _⟩ := ans
      exact ⟨p, rfl, n1⟩
end
theorem e_call {f : Nat} {es : Ex} : ∀ σ H Q, tE G Z W (evE C (.call f es)) σ H Q → tCallG (spF G.K (C.fn f)) (tCs G Z W (evC C (C.io f) es)) σ H Q := fun σ H Q ⟨A, ρ, S, N⟩ => by
  simp only [evE] at N
  refine ⟨A, ρ, S, N.bind.mono fun x e N1 => fun vs A1 H1 S1 E1 R1 => ?_⟩
  obtain ⟨as, is, ρ1⟩ := x
  dsimp only at N1 S1 E1 R1
  refine ⟨A1, as, argv_args S1 R1, S1.hs.dom, ?_⟩
  cases hf : C.fn f as with
  | st => rw [hf] at N1; exact N1.elim
  | ex c x => rw [hf] at N1; exact N1.elim
  | ok r =>
    rw [hf] at N1
    simp only [Rs.calm_ok, Rs.bind_ok] at N1
    obtain ⟨ρ', e3, N2⟩ := N1.ofO
    intro v A' H' aft ans ct
    obtain ⟨S3, E3, O3, F3⟩ := call_go E1 S1 R1 aft ans ct e3
    obtain ⟨o, cs⟩ := r
    cases o with
    | rf i => exact N2.elim
    | d x => exact N2.ok v A' H' S3 E3 O3 trivial
    | nw xs => exact N2.ok v A' H' S3 E3 O3 (fresh_back E1 F3)
/-! ### by keywords -/
def pickV (vs : List V) (pm : List Nat) : List V := pm.map fun j => vs.getD j .non
def tCallKG (sp : SpN) (n m : Nat) (pm : List Nat) (t tk : TA) : TE := fun σ H Q => t σ H fun vs H1 => tk σ H1 fun zs H2 => vs.length = n ∧ zs.length = m ∧ sp (pickV (vs ++ zs) pm) H2 Q
theorem pick_rep {K : PySem.W.Frag} {A : Ow} {H : Hp} {vs : List V} {xs : List MP.D} (r : RepAs K A H vs xs) : ∀ {pm : List Nat} {ys : List MP.D}, pick xs pm = some ys → ArgsR K A H (pickV vs pm) (ys.map Sl.d) ∧ ∀ a, ¬ WrL (pickV vs pm) (ys.map Sl.d) a
  | [], ys, e => by
    simp only [pick] at e
    cases e
    exact ⟨trivial, fun a z => z⟩
  | j :: pm, ys, e => by
    simp only [pick] at e
    cases e1 : xs[j]? with
    | none => rw [e1] at e; cases e
    | some x =>
      rw [e1] at e
      simp only [Option.bind_some, Option.map_eq_some_iff] at e
      obtain ⟨zs, e2, rfl⟩ := e
      obtain ⟨q1, q2⟩ := pick_rep r e2
      obtain ⟨v, e3, r3⟩ := r.get e1
      refine ⟨⟨?_, q1⟩, fun a z => q2 a z⟩
      show RepA K A H (vs.getD j .non) x
      rw [List.getD_eq_getElem?_getD, e3]
      exact r3
def argsLen : Ex → Nat
  | .cons _ r => argsLen r + 1
  | _ => 0
theorem evA_len : ∀ (es : Ex) (ρ : Env) (r : List MP.D × Env), evA C es ρ = .ok r → r.1.length = argsLen es
  | .nil, ρ, r, h => by simp only [evA] at h; cases h; rfl
  | .cons a es, ρ, r, h => by
    simp only [evA] at h
    obtain ⟨x, _, h1⟩ := rs_bind h
    obtain ⟨y, _, h2⟩ := rs_ofO h1
    obtain ⟨z, h3, h4⟩ := rs_bind h2
    cases h4
    simp [argsLen, evA_len es _ _ h3]
  | .lit _, ρ, r, h => by simp [evA] at h
  | .var _, ρ, r, h => by simp [evA] at h
  | .glo _, ρ, r, h => by simp [evA] at h
  | .u1 _ _, ρ, r, h => by simp [evA] at h
  | .u2 _ _ _, ρ, r, h => by simp [evA] at h
  | .chain _ _ _ _ _, ρ, r, h => by simp [evA] at h
  | .sl _ _ _, ρ, r, h => by simp [evA] at h
  | .omit, ρ, r, h => by simp [evA] at h
  | .an _ _, ρ, r, h => by simp [evA] at h
  | .or _ _, ρ, r, h => by simp [evA] at h
  | .ite _ _ _, ρ, r, h => by simp [evA] at h
  | .tup _, ρ, r, h => by simp [evA] at h
  | .lst _, ρ, r, h => by simp [evA] at h
  | .call _ _, ρ, r, h => by simp [evA] at h
  | .callK _ _ _ _, ρ, r, h => by simp [evA] at h
  | .lc _ _ _ _ _, ρ, r, h => by simp [evA] at h
  | .lc2 _ _ _ _ _ _ _ _ _, ρ, r, h => by simp [evA] at h
  | .tr _, ρ, r, h => by simp [evA] at h
  | .nt _, ρ, r, h => by simp [evA] at h
  | .walk _, ρ, r, h => by simp [evA] at h
  | .rng1 _, ρ, r, h => by simp [evA] at h
  | .rng2 _ _, ρ, r, h => by simp [evA] at h
  | .enum _, ρ, r, h => by simp [evA] at h
  | .zip _ _, ρ, r, h => by simp [evA] at h
  | .lrg _, ρ, r, h => by simp [evA] at h
  | .app _ _, ρ, r, h => by simp [evA] at h
  | .popAt _ _, ρ, r, h => by simp [evA] at h
theorem cts_none {K : PySem.W.Frag} {A : Ow} {H : Hp} : ∀ {vs : List V} {ys : List MP.D} {cs : List (List MP.D)}, CtsR K A H vs (ys.map Sl.d) cs → cs = []
  | [], [], [], _ => rfl
  | [], [], _ :: _, h => by cases h
  | v :: vs, y :: ys, cs, h => cts_none (vs := vs) (ys := ys) h
  | [], _ :: _, _, h => by cases h
  | _ :: _, [], _, h => by cases h
theorem e_callK {f : Nat} {es ks : Ex} {pm : List Nat} : ∀ σ H Q, tE G Z W (evE C (.callK f es ks pm)) σ H Q → tCallKG (spF G.K (C.fn f)) (argsLen es) (argsLen ks) pm (tAs G Z W (evA C es)) (tAs G Z W (evA C ks)) σ H Q := fun σ H Q ⟨A, ρ, S, N⟩ => by
  simp only [evE] at N
  refine ⟨A, ρ, S, N.bind.mono fun x e N1 => fun vs A1 H1 S1 E1 R1 => ⟨A1, x.2, S1, (N1.bind.move E1.fr).mono fun y e2 N2 => fun zs A2 H2 S2 E2 R2 => ?_⟩⟩
  obtain ⟨xs, e3, N3⟩ := N2.ofO
  have R := (RepAs.mono E2.fr R1).append R2
  refine ⟨by rw [R1.length, evA_len es _ _ e], by rw [R2.length, evA_len ks _ _ e2], ?_⟩
  obtain ⟨ar, nw⟩ := pick_rep R e3
  refine ⟨A2, xs.map Sl.d, ar, S2.hs.dom, ?_⟩
  cases hf : C.fn f (xs.map Sl.d) with
  | st => rw [hf] at N3; exact N3.elim
  | ex c x => rw [hf] at N3; exact N3.elim
  | ok r =>
    rw [hf] at N3
    simp only [Rs.calm_ok, Rs.bind_ok] at N3
    intro v A' H' aft ans ct
    obtain ⟨o, cs⟩ := r
    have ecs := cts_none ct
    dsimp only at ecs
    subst ecs
    have kp : ∀ a o, H2 a = some o → H' a = some o := fun a o h => aft.keep a o h (nw a)
    have Ex3 : Ev σ y.2 A2 H2 y.2 A' H' := ⟨aft.fr, fun a o h _ => kp a o h, fun a h _ => aft.sub a h, fun _ h => h, aft.dom, fun _ h => h⟩
    have S3 : SR G.K Z A' σ H' y.2 := by
      refine ⟨⟨aft.there, fun b h => aft.sub b (S2.hs.sub b h), fun b o h n => kp b o (S2.hs.old b o h n), fun b h => aft.dom b (S2.hs.oldd b h), S2.hs.dom0, S2.hs.wr0⟩, S2.len, fun j hj => ?_, S2.inj⟩
      refine (S2.sl j hj).mono aft.fr fun p xs b h1 h2 => ?_
      have q := S2.sl j hj
      rw [h1] at q
      obtain ⟨b', ws, e1, r1, r2, _⟩ := q
      rw [h2] at e1
      cases e1
      exact ⟨aft.sub b r1, by rw [r2]; exact kp b _ r2⟩
    cases o with
    | rf i => exact N3.elim
    | d x => exact N3.ok v A' H' S3 ((E1.trans E2).trans Ex3) ans trivial
    | nw xs =>
      obtain ⟨p, ws, rfl, n1, n2, n3, n4⟩ := ans
      refine N3.ok (.ref p) A' H' S3 ((E1.trans E2).trans Ex3) ⟨p, ws, rfl, n2, fun z => ?_, n3, n4, ?_⟩ (fresh_back (E1.trans E2) ⟨p, rfl, n1⟩)
      · obtain ⟨_, us, z2⟩ := Own.there S2 z
        rw [n1] at z2
        cases z2
      · cases z : Z.H0 p with
        | none => rfl
        | some u => exact absurd n1 (S2.hs.oldd p (by rw [z]; exact fun q => nomatch q))
end
end MP
/-! ML: enumerate, zip, list(range ..). Own work. -/
namespace MP
open PySem
open PySem.Spec
open PyProof.Rows
open L2
section
variable {K : PySem.W.Frag}
theorem rep_pair {A : Ow} {H : Hp} {T : Addr} {x y : V} {d e : MP.D} (hA : ∀ a, A a → H a ≠ none) (hT : H T = none) (rx : RepA K A H x d) (ry : RepA K A H y e) : RepA K A (upd H T (.tup [x, y])) (.ref T) (.tup [d, e]) := by
  have f : MP.Fr A H A (upd H T (.tup [x, y])) := (Ext.new hT).fr
  exact .tup (.inl upd_same) (fun z => hA T z hT) (.cons (RepA.mono f rx) (.cons (RepA.mono f ry) .nil))
theorem enumD_get : ∀ (ds : List MP.D) (k i : Nat), (enumD k ds)[i]? = (ds[i]?).map fun d => MP.D.tup [.int ((k + i : Nat) : Int), d]
  | [], k, i => by simp [enumD]
  | d :: ds, k, 0 => by simp [enumD]
  | d :: ds, k, i + 1 => by
    simp only [enumD, List.getElem?_cons_succ]
    rw [enumD_get ds (k + 1) i, show k + 1 + i = k + (i + 1) by omega]
theorem enumD_len : ∀ (ds : List MP.D) (k : Nat), (enumD k ds).length = ds.length
  | [], k => rfl
  | d :: ds, k => by simp [enumD, enumD_len ds]
theorem itr_enum {A : Ow} {H : Hp} {a : Addr} {xs : List V} {ds : List MP.D} (h : H a = some (.lst xs)) (n : ¬ A a) (r : RepAs K A H xs ds) : ItR K (Ite K a) A H (enumD 0 ds) := by
  intro A1 H1 f dm i
  have h1 : SqL K H1 a xs := .inl (.inl (f a _ h n).1)
  refine ⟨fun d hd => ?_, fun hl => ⟨xs, h1, by rw [enumD_len] at hl; rw [r.length]; exact hl⟩⟩
  rw [enumD_get, Option.map_eq_some_iff] at hd
  obtain ⟨d0, hd0, rfl⟩ := hd
  obtain ⟨v, e1, e2⟩ := r.get hd0
  refine ⟨⟨xs, v, h1, e1⟩, fun x H2 y => ?_⟩
  obtain ⟨T, w, rfl, hT, rfl, y⟩ := y
  have z := y xs h1
  rw [e1] at z
  cases z
  rw [Nat.zero_add]
  exact ⟨Ext.new hT, rep_pair dm hT (.int _) (RepA.mono f e2)⟩
theorem zipD_get : ∀ (xs ys : List MP.D) (i : Nat) (d : MP.D), (zipD xs ys)[i]? = some d → ∃ x y, xs[i]? = some x ∧ ys[i]? = some y ∧ d = .tup [x, y]
  | x :: xs, y :: ys, 0, d, h => by simp [zipD] at h; exact ⟨x, y, rfl, rfl, h.symm⟩
  | x :: xs, y :: ys, i + 1, d, h => by
    simp only [zipD, List.getElem?_cons_succ] at h
    simpa using zipD_get xs ys i d h
  | [], ys, i, d, h => by simp [zipD] at h
  | _ :: _, [], i, d, h => by simp [zipD] at h
theorem zipD_len : ∀ (xs ys : List MP.D), (zipD xs ys).length = min xs.length ys.length
  | x :: xs, y :: ys => by simp [zipD, zipD_len xs ys]
  | [], ys => by simp [zipD]
  | _ :: _, [] => by simp [zipD]
theorem itr_zipL {A : Ow} {H : Hp} {a b : Addr} {xs ys : List V} {ds es : List MP.D} (h : H a = some (.lst xs)) (n : ¬ A a) (r : RepAs K A H xs ds) (h' : H b = some (.lst ys)) (n' : ¬ A b) (r' : RepAs K A H ys es) : ItR K (Itz K a b) A H (zipD ds es) := by
  intro A1 H1 f dm i
  have h1 : SqL K H1 a xs := .inl (.inl (f a _ h n).1)
  have h2 : SqL K H1 b ys := .inl (.inl (f b _ h' n').1)
  refine ⟨fun d hd => ?_, fun hl => ⟨xs, ys, h1, h2, by rw [zipD_len] at hl; rw [r.length, r'.length]; omega⟩⟩
  obtain ⟨x0, y0, k1, k2, rfl⟩ := zipD_get _ _ _ _ hd
  obtain ⟨v, e1, e2⟩ := r.get k1
  obtain ⟨w, e3, e4⟩ := r'.get k2
  refine ⟨⟨xs, ys, v, w, h1, h2, e1, e3⟩, fun x H2 y => ?_⟩
  obtain ⟨T, x2, y2, rfl, hT, rfl, p1, p2⟩ := y
  have z := p1 xs h1
  rw [e1] at z
  cases z
  have z := p2 ys h2
  rw [e3] at z
  cases z
  exact ⟨Ext.new hT, rep_pair dm hT (RepA.mono f e2) (RepA.mono f e4)⟩
theorem tup_stay {A : Ow} {H : Hp} {v : V} {ds : List MP.D} (r : RepA K A H v (.tup ds)) : ∃ a xs, v = .ref a ∧ RepAs K A H xs ds ∧ ∀ A1 H1, MP.Fr A H A1 H1 → SqT K H1 a xs := by
  cases r with
  | tup h n rs => exact ⟨_, _, rfl, rs, fun A1 H1 f => .inl (f.rd h n).1⟩
  | tupK h rs => exact ⟨_, _, rfl, rs, fun A1 H1 f => .inr h⟩
theorem itr_zipT {A : Ow} {H : Hp} {v w : V} {ds es : List MP.D} (r : RepA K A H v (.tup ds)) (r' : RepA K A H w (.tup es)) : ∃ a b xs ys, v = .ref a ∧ w = .ref b ∧ SqT K H a xs ∧ SqT K H b ys ∧ ItR K (RZ.ItzT K a b) A H (zipD ds es) := by
  obtain ⟨a, xs, rfl, rs, st⟩ := tup_stay r
  obtain ⟨b, ys, rfl, rs', st'⟩ := tup_stay r'
  refine ⟨a, b, xs, ys, rfl, rfl, st A H Fr.refl, st' A H Fr.refl, fun A1 H1 f dm i => ?_⟩
  have h1 := st A1 H1 f
  have h2 := st' A1 H1 f
  refine ⟨fun d hd => ?_, fun hl => ⟨xs, ys, h1, h2, by rw [zipD_len] at hl; rw [rs.length, rs'.length]; omega⟩⟩
  obtain ⟨x0, y0, k1, k2, rfl⟩ := zipD_get _ _ _ _ hd
  obtain ⟨v, e1, e2⟩ := rs.get k1
  obtain ⟨w, e3, e4⟩ := rs'.get k2
  refine ⟨⟨xs, ys, v, w, h1, h2, e1, e3⟩, fun x H2 y => ?_⟩
  obtain ⟨T, x2, y2, rfl, hT, rfl, p1, p2⟩ := y
  have z := p1 xs h1
  rw [e1] at z
  cases z
  have z := p2 ys h2
  rw [e3] at z
  cases z
  exact ⟨Ext.new hT, rep_pair dm hT (RepA.mono f e2) (RepA.mono f e4)⟩
end
section
variable {G : Gd} {Z : Act} {W : WX} {C : Ctx}
theorem outO {σ : L2.St} {A : Ow} {H : Hp} {β : Type} {o : Option β} {P : β → Prop} (h : Out G Z W σ A H (ofO o) P) : ∃ b, o = some b ∧ P b := by
  cases o with
  | none => exact h.elim
  | some b => exact ⟨b, rfl, h⟩
theorem i_enum {a : Ex} (hl : True) : ∀ σ H R, tI G Z W (evI C (.enum a)) σ H R → iEnum G.K (tCons (tE G Z W (evE C a)) tNil) σ H R := fun σ H R ⟨A, ρ, S, N⟩ => by
  simp only [evI] at N
  refine ⟨A, ρ, S, N.bind.mono fun x e N1 => fun v A1 H1 S1 E1 R1 F1 => ?_⟩
  obtain ⟨y, e2, N2⟩ := N1.ofO
  obtain ⟨xs, e3, N3⟩ := N2.ofO
  obtain ⟨y1, ρ1⟩ := y
  obtain ⟨A2, S2, E2, R2⟩ := R1.tk S1 E1 F1 S.hs.dom e2
  cases y1 with
  | lst ds =>
    simp only [lstOf] at e3
    cases e3
    cases R2 with
    | lst h n rs => exact ⟨_, _, rfl, .inl (.inl h), N3.ok _ A2 H1 S2 E2 (itr_enum h n rs)⟩
  | _ => simp [lstOf] at e3
theorem i_zip {a b : Ex} : ∀ σ H R, tI G Z W (evI C (.zip a b)) σ H R → RZ.iZipA G.K (tCons (tE G Z W (evE C a)) (tCons (tE G Z W (evE C b)) tNil)) σ H R := fun σ H R ⟨A, ρ, S, N⟩ => by
  simp only [evI] at N
  refine ⟨A, ρ, S, N.bind.mono fun x e N1 => fun v A1 H1 S1 E1 R1 F1 => ?_⟩
  obtain ⟨y, e2, N2⟩ := N1.ofO
  obtain ⟨A2, S2, E2, R2⟩ := R1.tk S1 E1 F1 S.hs.dom e2
  refine ⟨A2, y.2, S2, (Out.move E2.fr N2.bind).mono fun x2 e3 N3 => fun u A3 H3 S3 E3 R3 F3 => ?_⟩
  obtain ⟨z, e4, N4⟩ := N3.ofO
  obtain ⟨A4, S4, E4, R4⟩ := R3.tk S3 E3 F3 S2.hs.dom e4
  have R2' := RepA.mono E4.fr R2
  obtain ⟨zs, e5, N5⟩ := N4.ofO
  have E := E2.trans E4
  obtain ⟨y1, ρ1⟩ := y
  obtain ⟨z1, ρ2⟩ := z
  dsimp only at e5 R2' R4
  cases y1 with
  | lst ds =>
    cases z1 with
    | lst es =>
      simp only [zipO] at e5
      cases e5
      cases R2' with
      | lst h n rs =>
        cases R4 with
        | lst h' n' rs' => exact ⟨_, _, _, _, rfl, .inl ⟨.inl (.inl h), .inl (.inl h'), N5.ok _ A4 H3 S4 E (itr_zipL h n rs h' n' rs')⟩⟩
    | _ => simp [zipO] at e5
  | tup ds =>
    cases z1 with
    | tup es =>
      simp only [zipO] at e5
      cases e5
      obtain ⟨p, q, xs, ys, rfl, rfl, k1, k2, k3⟩ := itr_zipT R2' R4
      exact ⟨p, q, xs, ys, rfl, .inr ⟨k1, k2, N5.ok _ A4 H3 S4 E k3⟩⟩
    | _ => simp [zipO] at e5
  | _ => cases z1 <;> simp [zipO] at e5
theorem rep_rg {A : Ow} {H : Hp} {i j : Int} : RepAs G.K A H (rgV i j) (rangeD i j) := by
  have go : ∀ l : List Nat, RepAs G.K A H (l.map fun k => V.int (i + (k : Nat))) (l.map fun k => MP.D.int (i + (k : Nat))) := fun l => by
    induction l with
    | nil => exact .nil
    | cons k l ih => exact .cons (.int _) ih
  exact go _
theorem e_lrg1 {a : Ex} : ∀ σ H Q, tE G Z W (evE C (.lrg (.rng1 a))) σ H Q → tLstRg (tRg1 (tE G Z W (evE C a))) σ H Q := fun σ H Q ⟨A, ρ, S, N⟩ => by
  simp only [evE, evI] at N
  refine ⟨A, ρ, S, N.bind.bind.mono fun x e N1 => fun v A1 H1 S1 E1 R1 F1 => ?_⟩
  obtain ⟨i, e2, N2⟩ := outO N1.bind
  have z := opInt_some R1 e2
  subst z
  split at N2
  · rename_i h
    simp only [rngOk, Bool.and_eq_true, decide_eq_true_eq] at h
    have N3 := N2.ok
    dsimp only at N3
    split at N3
    · rename_i hl
      have hlen : (i - 0).toNat ≤ 16777216 := by simpa [rangeD, line] using hl
      refine ⟨i, rfl, ⟨by omega, by omega, h.1.2, h.2, by omega⟩, fun q hq => ?_⟩
      obtain ⟨S2, E2, R2, F2⟩ := (res_nw (vs := rgV 0 i) (ds := rangeD 0 i) hq rep_rg).go S1
      exact N3.ok (.ref q) _ _ S2 (E1.trans E2) R2 (fresh_back E1 F2)
    · exact N3.elim
  · exact N2.elim
theorem e_lrg2 {a b : Ex} : ∀ σ H Q, tE G Z W (evE C (.lrg (.rng2 a b))) σ H Q → tLstRg (tRg2 (tE G Z W (evE C a)) (tE G Z W (evE C b))) σ H Q := fun σ H Q ⟨A, ρ, S, N⟩ => by
  simp only [evE, evI] at N
  refine ⟨A, ρ, S, N.bind.bind.mono fun x e N1 => fun v A1 H1 S1 E1 R1 F1 => ?_⟩
  obtain ⟨i, e2, N2⟩ := outO N1.bind
  have z := opInt_some R1 e2
  subst z
  refine ⟨A1, x.2, S1, (Out.move E1.fr N2.bind).mono fun y e3 N3 => fun u A2 H2 S2 E2 R2 F2 => ?_⟩
  obtain ⟨j, e4, N4⟩ := N3.ofO
  have z := opInt_some R2 e4
  subst z
  split at N4
  · rename_i h
    simp only [rngOk, Bool.and_eq_true, decide_eq_true_eq] at h
    have N5 := N4.ok
    dsimp only at N5
    split at N5
    · rename_i hl
      have hlen : (j - i).toNat ≤ 16777216 := by simpa [rangeD, line] using hl
      refine ⟨i, j, rfl, rfl, ⟨h.1.1.1, h.1.1.2, h.1.2, h.2, by omega⟩, fun q hq => ?_⟩
      obtain ⟨S3, E3, R3, F3⟩ := (res_nw (vs := rgV i j) (ds := rangeD i j) hq rep_rg).go S2
      exact N5.ok (.ref q) _ _ S3 ((E1.trans E2).trans E3) R3 (fresh_back (E1.trans E2) F3)
    · exact N5.elim
  · exact N4.elim
end
end MP
/-! MM: from the program's expressions to the little language. Own work. -/
namespace MP
open PySem
open PySem.Spec
open PyProof.Rows
open L2
/-- what is known of the names of a def -/
structure Tc where
  sc : Scope
  /-- a comprehension's block -/
  bk : Bool
  N : List Str
  tops : List (Str × Nat)
  csts : List (Str × Nat)
  free : List Str
  kw : List ((Nat × Nat × List Str) × List Nat)
def okN (x : Str) : Bool := !(x == ("__debug__" : Str)) && (!(x == ("__classdict__" : Str)) && !(x == ("__name__" : Str)))
def idxN : List Str → Str → Option Nat
  | [], _ => none
  | y :: r, x => if y = x then some 0 else (idxN r x).map (· + 1)
theorem idxN_get : ∀ {N : List Str} {x : Str} {i : Nat}, idxN N x = some i → N[i]? = some x
  | [], x, i, h => by cases h
  | y :: r, x, i, h => by
    unfold idxN at h
    by_cases e : y = x
    · rw [if_pos e] at h
      cases h
      simp [e]
    · rw [if_neg e] at h
      obtain ⟨j, h1, rfl⟩ := Option.map_eq_some_iff.mp h
      simpa using idxN_get h1
def visB : Option NameKind → Bool
  | some .local => true
  | some .cell => true
  | some .free => true
  | _ => false
def locB : Option NameKind → Bool
  | some .local => true
  | some .cell => true
  | _ => false
def loB : Option NameKind → Bool
  | some .local => true
  | _ => false
def glB : Option NameKind → Bool
  | some .globalImplicit => true
  | _ => false
section
variable (T : Tc)
def vr (x : Str) : Option Nat := if okN x && visB (T.sc.names.lookup x) then idxN T.N x else none
def lc' (x : Str) : Option Nat := if okN x && (locB (T.sc.names.lookup x) && (!T.bk || loB (T.sc.names.lookup x))) then idxN T.N x else none
def gl (x : Str) : Bool := okN x && glB (T.sc.names.lookup x)
/-- a built-in name -/
def bi (x : Str) : Bool := gl T x && T.free.contains x
end
def nst : Expr → Bool
  | .Starred .. => false
  | _ => true
def notSet : Expr → Bool
  | .Set .. => false
  | _ => true
def notSlc : Expr → Bool
  | .Slice .. => false
  | _ => true
def o2b : Operator → Option O2
  | .Add => some .add
  | .Sub => some .sub
  | .Mult => some .mul
  | .FloorDiv => some .fdiv
  | .Mod => some .mod
  | .Pow => some .pow
  | _ => none
def o2c : CmpOp → Option O2
  | .Lt => some .lt
  | .LtE => some .le
  | .Gt => some .gt
  | .GtE => some .ge
  | .Eq => some .eq
  | .NotEq => some .ne
  | .In => some .inn
  | .NotIn => some .nin
  | .Is => some .isB
  | .IsNot => some .notB
def trC : Const → Ex
  | .int i => .lit (.int i)
  | .bool b => .lit (.bl b)
  | .none => .lit .non
  | .str s => .lit (.str s.cps.toList)
  | _ => .omit
def trN (T : Tc) (x : Str) : Ex := match vr T x with
  | some i => .var i
  | none => if gl T x then (match T.csts.lookup x with
    | some g => .glo g
    | none => .omit) else .omit
def trA (r : Expr → Ex) : List Expr → Ex
  | [] => .nil
  | e :: es => if nst e then .cons (r e) (trA r es) else .omit
def trKw (r : Expr → Ex) : List Keyword → Ex
  | [] => .nil
  | ⟨_, e, _⟩ :: ks => .cons (r e) (trKw r ks)
def kwNames : List Keyword → Option (List Str)
  | [] => some []
  | ⟨some x, _, _⟩ :: ks => (kwNames ks).map (x :: ·)
  | _ => none
def trAnd (r : Expr → Ex) : List Expr → Ex
  | [] => .omit
  | [a] => r a
  | a :: b :: rest => .an (r a) (trAnd r (b :: rest))
def trOr (r : Expr → Ex) : List Expr → Ex
  | [] => .omit
  | [a] => r a
  | a :: b :: rest => .or (r a) (trOr r (b :: rest))
def isNoneE : Expr → Bool
  | .Constant .none _ _ => true
  | _ => false
def trCmpO (r : Expr → Ex) (a b : Expr) (op : CmpOp) : Ex := match o2c op with
  | some o => .u2 o (r a) (r b)
  | none => .omit
def trCmpN (r : Expr → Ex) (a b : Expr) (op : CmpOp) : Ex := match op with
  | .Is => .u1 .isN (r a)
  | .IsNot => .u1 .notN (r a)
  | op => trCmpO r a b op
def trCmp2 (a b c : Ex) : Option O2 → Option O2 → Ex
  | some o, some o' => .chain o o' a b c
  | _, _ => .omit
def trCmp (r : Expr → Ex) (a : Expr) : List CmpOp → List Expr → Ex
  | [op], [b] => if isNoneE b then trCmpN r a b op else if notSet b then trCmpO r a b op else .omit
  | [p, q], [b, c] => if notSet c then trCmp2 (r a) (r b) (r c) (o2c p) (o2c q) else .omit
  | _, _ => .omit
def trP (r : Expr → Ex) : Option Expr → Ex
  | none => .omit
  | some e => .tr (r e)
def tyO : Str → Option O1 := fun x => if x = "int" then some .isI else if x = "bool" then some .isB else if x = "str" then some .isS else if x = "tuple" then some .isTup else if x = "list" then some .isLst else none
def bi1 : Str → Option O1 := fun x => if x = "len" then some .len else if x = "abs" then some .abs else if x = "int" then some .toInt else if x = "sum" then some .sum else if x = "any" then some .any else if x = "all" then some .all else
  if x = "list" then some .toLst else if x = "tuple" then some .toTup else if x = "max" then some .mx else if x = "min" then some .mn else if x = "repr" then some .repr else if x = "sorted" then some .sorted else none
def bi2 : Str → Option O2 := fun x => if x = "max" then some .mx else if x = "min" then some .mn else if x = "divmod" then some .dm else none
/-- range(..) -/
def trRg (r : Expr → Ex) (T : Tc) : Expr → Option Ex
  | .Call (.Name x _) [a] [] _ => if (x = "range" ∧ bi T x = true) ∧ nst a = true then some (.rng1 (r a)) else none
  | .Call (.Name x _) [a, b] [] _ => if (x = "range" ∧ bi T x = true) ∧ nst a = true ∧ nst b = true then some (.rng2 (r a) (r b)) else none
  | _ => none
def trBi (r : Expr → Ex) (T : Tc) (x : Str) : List Expr → Ex
  | [a] => (if x = "list" then (match trRg r T a with
      | some g => .lrg g
      | none => if nst a then .u1 .toLst (r a) else .omit)
    else match bi1 x with
      | some o => if nst a then .u1 o (r a) else .omit
      | none => .omit)
  | [a, b] => if x = "isinstance" then (match b with
      | .Name t _ => if bi T t && nst a then (match tyO t with
        | some o => .u1 o (r a)
        | none => .omit) else .omit
      | _ => .omit)
    else match bi2 x with
      | some o => if nst a && nst b then .u2 o (r a) (r b) else .omit
      | none => .omit
  | _ => .omit
def trCall (r : Expr → Ex) (T : Tc) (cp : Pos) (f : Expr) (es : List Expr) (ks : List Keyword) : Ex := match f with
  | .Name x _ => (match T.tops.lookup x with
    | some k => if gl T x && es.all nst then (match ks with
        | [] => .call k (trA r es)
        | ks => (match kwNames ks with
          | some ns => (match T.kw.lookup (k, es.length, ns) with
            | some pm => .callK k (trA r es) (trKw r ks) pm
            | none => .omit)
          | none => .omit)) else .omit
    | none => if bi T x then (match ks with
      | [] => trBi r T x es
      | _ => .omit) else .omit)
  | .Attribute (.Name x _) m ap => (match ks, es, vr T x with
    | [], [e], some i => if nst e && ap.endLine == cp.line then (if m = "append" then .app i (r e) else if m = "pop" then .popAt i (r e) else .omit) else .omit
    | _, _, _ => .omit)
  | _ => .omit
def tgI (T : Tc) (x : Str) : Option Nat := lc' T x
def trGs (r : Expr → Tg) : List Expr → Tg × Bool
  | [] => (.nil, true)
  | e :: es => (.cons (r e) (trGs r es).1, nst e && (trGs r es).2)
def trG : Nat → Tc → Expr → Tg
  | 0, _, _ => .nil
  | n + 1, T, e => match e with
    | .Name x _ => (match tgI T x with
      | some i => .name i
      | none => .nil)
    | .Tuple es _ _ => if (trGs (trG n T) es).2 then .tup (trGs (trG n T) es).1 else .nil
    | .Subscript (.Name x _) (.Constant (.int k) _ _) _ => (match vr T x with
      | some i => .ixL i k
      | none => .nil)
    | .Subscript (.Name x _) (.Name y _) _ => (match vr T x, vr T y with
      | some i, some j => .ixV i j
      | _, _ => .nil)
    | _ => .nil
def trI (r : Expr → Ex) (T : Tc) (tg : Expr) (e : Expr) : Ex := match trRg r T e with
  | some g => g
  | none => (match e, tg with
    | .Call (.Name x _) [a] [] _, .Tuple .. => if x = "enumerate" ∧ bi T x = true ∧ nst a = true then .enum (r a) else .walk (r e)
    | .Call (.Name x _) [a, b] [] _, .Tuple .. => if x = "zip" ∧ bi T x = true ∧ nst a = true ∧ nst b = true then .zip (r a) (r b) else .walk (r e)
    | e, _ => .walk (r e))
def ownO (N : List Str) : List (Str × NameKind) → Option (List (Str × Nat))
  | [] => some []
  | (x, k) :: r => if locB (some k) then (match idxN N x with
    | some i => (ownO N r).map ((x, i) :: ·)
    | none => ownO N r) else ownO N r
def subV (t : Tg) (vs : List Nat) : Bool := (tgN t).all fun i => vs.contains i
def relB (scope sc : Scope) : Scope := { scope with names := scope.names.map fun (n, k) => if (k == .free && sc.kind == .function && sc.names.lookup n == some .cell) then (n, .cell) else (n, k) }
def tcB (T : Tc) (scope : Scope) : Tc := { T with sc := relB scope T.sc, bk := true }
def trO (r : Expr → Ex) : Option Expr → Ex
  | none => .omit
  | some c => r c
def trLc (r : Tc → Expr → Ex) (rt : Tc → Expr → Ex) (T : Tc) (elt : Expr) (gs : List Comprehension) (scope : Scope) : Ex := match gs with
  | [⟨tg, it, ifs, 0⟩] => (match ownO T.N scope.names with
    | some own =>
      if blkC T.N T.sc scope own && (notSet it && subV (trG 6 (tcB T scope) tg) (own.map (·.2))) then (match ifs with
        | [] => .lc (trG 6 (tcB T scope) tg) (trI (r T) T tg it) .omit (r (tcB T scope) elt) (own.map (·.2))
        | [c] => .lc (trG 6 (tcB T scope) tg) (trI (r T) T tg it) (rt (tcB T scope) c) (r (tcB T scope) elt) (own.map (·.2))
        | _ => .omit) else .omit
    | none => .omit)
  | _ => .omit
def trLc2 (r : Tc → Expr → Ex) (rt : Tc → Expr → Ex) (T : Tc) (elt tg it : Expr) (c : Option Expr) (tg1 it1 : Expr) (c1 : Option Expr) (scope : Scope) : Ex := match ownO T.N scope.names with
  | some own => if blkC T.N T.sc scope own && ((notSet it && notSet it1) && (subV (trG 6 (tcB T scope) tg) (own.map (·.2)) && subV (trG 6 (tcB T scope) tg1) (own.map (·.2)))) then
      .lc2 (trG 6 (tcB T scope) tg) (trI (r T) T tg it) (trO (rt (tcB T scope)) c) (trG 6 (tcB T scope) tg1) (trI (r (tcB T scope)) (tcB T scope) tg1 it1) (trO (rt (tcB T scope)) c1) (r (tcB T scope) elt) (own.map (·.2)) (tgN (trG 6 (tcB T scope) tg1))
    else .omit
  | none => .omit
def oneIf : List Expr → Option (Option Expr)
  | [] => some none
  | [c] => some (some c)
  | _ => none
def trLcs (r : Tc → Expr → Ex) (rt : Tc → Expr → Ex) (T : Tc) (elt : Expr) (gs : List Comprehension) (scope : Scope) : Ex := match gs with
  | [⟨tg, it, ifs, 0⟩, ⟨tg1, it1, ifs1, 0⟩] => (match oneIf ifs, oneIf ifs1 with
    | some c, some c1 => trLc2 r rt T elt tg it c tg1 it1 c1 scope
    | _, _ => .omit)
  | gs => trLc r rt T elt gs scope
def isM1 : Expr → Bool
  | .UnaryOp .USub (.Constant (.int 1) _ _) _ => true
  | _ => false
def trSlc (r : Expr → Ex) (a : Ex) (lo hi : Option Expr) : Option Expr → Ex
  | none => .sl a (trP r lo) (trP r hi)
  | some e => if isM1 e && (lo.isNone && hi.isNone) then .u1 .rev a else .omit
/-- true: as a test -/
def tr : Nat → Bool → Tc → Expr → Ex
  | 0, true, _, _ => .tr .omit
  | 0, false, _, _ => .omit
  | n + 1, true, T, e => (match e with
    | .UnaryOp op a _ => (match op with
      | .Not => .nt (tr n true T a)
      | _ => .tr .omit)
    | .BoolOp op vs _ => if vs.isEmpty then .tr .omit else (match op with
      | .And => trAnd (tr n true T) vs
      | .Or => trOr (tr n true T) vs)
    | .Compare a ops bs _ => .tr (trCmp (tr n false T) a ops bs)
    | .IfExp .. => .tr .omit
    | e => .tr (tr n false T e))
  | n + 1, false, T, e => match e with
    | .Constant c _ _ => trC c
    | .Name x _ => trN T x
    | .BinOp a op b _ => (match o2b op with
      | some o => .u2 o (tr n false T a) (tr n false T b)
      | none => .omit)
    | .UnaryOp op a _ => (match op with
      | .USub => .u1 .neg (tr n false T a)
      | .Not => .u1 .not (tr n false T a)
      | _ => .omit)
    | .Compare a ops bs _ => trCmp (tr n false T) a ops bs
    | .BoolOp op vs _ => (match op with
      | .And => trAnd (tr n false T) vs
      | .Or => trOr (tr n false T) vs)
    | .IfExp c a b _ => .ite (tr n true T c) (tr n false T a) (tr n false T b)
    | .Tuple es _ _ => .tup (trA (tr n false T) es)
    | .List es _ => .lst (trA (tr n false T) es)
    | .Subscript a s _ => (match s with
      | .Slice lo hi st _ => trSlc (tr n false T) (tr n false T a) lo hi st
      | s => if notSlc s then .u2 .ix (tr n false T a) (tr n false T s) else .omit)
    | .Call f es ks p => trCall (tr n false T) T p f es ks
    | .ListComp elt gs scope _ => trLcs (tr n false) (tr n true) T elt gs scope
    | _ => .omit
end MP
/-! MN: the little language's expressions say what the program's do. Own work. -/
namespace MP
open PySem
open PySem.Spec
open PyProof.Rows
open L2
def gd' (K : PySem.W.Frag) : Gd := ⟨K, fun _ => default⟩
def KBP (K : PySem.W.Frag) (fd : FuncData) (ps : List Str) (m : Nat) (ns : List Str) (pm : List Nat) : Prop :=
  ∀ (s : Shared) (us ws : List Value), K.In s.heap → us.length = m → ws.length = ns.length → BindsTo s fd ⟨us, ns.zip ws⟩ (ps.zip (pm.map fun j => (us ++ ws).getD j .none))
structure Wd (X : Cx) (C : Ctx) (T : Tc) (n : Nat) : Prop where
  N : X.N = T.N
  nd : T.N.Nodup
  sc : X.env.scope = T.sc
  calm : X.calm = true
  room : Room n X.A
  gu : X.A.guards = some []
  fn : T.bk = false → ∀ x, X.fn x = true
  free : ∀ x, T.free.contains x = true → X.mg x = none
  tops : ∀ x k, T.tops.lookup x = some k → ∃ (f : Addr) (fd : FuncData) (ps : List Str), FnG X.prog X.w X.K X.mg X.base n f fd ps (spF X.K (C.fn k)) ∧ X.mg x = some (.ref f) ∧ PySem.W.keepIn X.K (.ref f) = true ∧ Binds X.K fd ps [] ∧
    ∀ m ns pm, T.kw.lookup (k, m, ns) = some pm → KBP X.K fd ps m ns pm
  csts : ∀ x g, T.csts.lookup x = some g → ∃ u v, X.mg x = some u ∧ RelV v u ∧ ∀ A H, RepA X.K A H v (C.cst g)
theorem okN_d {x : Str} (h : okN x = true) : (x == ("__debug__" : Str)) = false ∧ (x == ("__classdict__" : Str)) = false ∧ x ≠ "__name__" := by
  unfold okN at h
  simp only [Bool.and_eq_true, Bool.not_eq_true'] at h
  exact ⟨h.1, h.2.1, fun z => by rw [z] at h; simp at h⟩
theorem visB_ok {o : Option NameKind} (h : visB o = true) : o = some .local ∨ o = some .cell ∨ o = some .free := by
  cases o with
  | none => cases h
  | some k => cases k <;> first | exact .inl rfl | exact .inr (.inl rfl) | exact .inr (.inr rfl) | cases h
theorem locB_ok {o : Option NameKind} (h : locB o = true) : o = some .local ∨ o = some .cell := by
  cases o with
  | none => cases h
  | some k => cases k <;> first | exact .inl rfl | exact .inr rfl | cases h
theorem glB_ok {o : Option NameKind} (h : glB o = true) : o = some .globalImplicit := by
  cases o with
  | none => cases h
  | some k => cases k <;> first | rfl | cases h
section
variable {X : Cx} {C : Ctx} {T : Tc} {n : Nat} {Z : Act} (w : Wd X C T n)
include w
theorem Wd.vr {x : Str} {i : Nat} (h : MP.vr T x = some i) : X.N[i]? = some x ∧ Vis X.env.scope x ∧ okN x = true := by
  unfold MP.vr at h
  split at h
  · rename_i c
    obtain ⟨c1, c2⟩ := Bool.and_eq_true_iff.mp c
    exact ⟨by rw [w.N]; exact idxN_get h, by rw [w.sc]; exact visB_ok c2, c1⟩
  · cases h
theorem Wd.lc {x : Str} {i : Nat} (h : MP.lc' T x = some i) : X.N[i]? = some x ∧ Loc X.env.scope x ∧ okN x = true ∧ (X.fn x = true ∨ X.env.scope.names.lookup x = some .local) := by
  unfold MP.lc' at h
  split at h
  · rename_i c
    obtain ⟨c1, c2⟩ := Bool.and_eq_true_iff.mp c
    obtain ⟨c2, c3⟩ := Bool.and_eq_true_iff.mp c2
    refine ⟨by rw [w.N]; exact idxN_get h, by rw [w.sc]; exact locB_ok c2, c1, ?_⟩
    cases e : T.bk with
    | false => exact .inl (w.fn e x)
    | true =>
      rw [e] at c3
      rw [w.sc]
      right
      have c4 : loB (T.sc.names.lookup x) = true := c3
      cases q : T.sc.names.lookup x with
      | none => rw [q] at c4; cases c4
      | some k => rw [q] at c4; cases k <;> first | rfl | cases c4
  · cases h
theorem Wd.gl {x : Str} (h : MP.gl T x = true) : Gl X x ∧ okN x = true := by
  unfold MP.gl at h
  obtain ⟨c1, c2⟩ := Bool.and_eq_true_iff.mp h
  refine ⟨?_, c1⟩
  show X.env.scope.names.lookup x = some .globalImplicit
  rw [w.sc]
  exact glB_ok c2
theorem Wd.bi {x : Str} (h : MP.bi T x = true) : Gl X x ∧ X.mg x = none ∧ okN x = true := by
  unfold MP.bi at h
  obtain ⟨c1, c2⟩ := Bool.and_eq_true_iff.mp h
  exact ⟨(w.gl c1).1, w.free x c2, (w.gl c1).2⟩
theorem Wd.ndN : X.N.Nodup := by rw [w.N]; exact w.nd
theorem Wd.un : X.A.units + 66 < cLine := by have := w.room.un; omega
end
/-! ### pieces -/
section
variable {X : Cx} {C : Ctx} {Z : Act}
abbrev TEx (X : Cx) (Z : Act) (C : Ctx) (x : Ex) : TE := tE (gd' X.K) Z W0 (evE C x)
abbrev TTx (X : Cx) (Z : Act) (C : Ctx) (x : Ex) : TT := tB' (gd' X.K) Z W0 (evT C x)
abbrev TAx (X : Cx) (Z : Act) (C : Ctx) (x : Ex) : TA := tAs (gd' X.K) Z W0 (evA C x)
theorem pe_omit {e : Expr} : PE X e (TEx X Z C .omit) := ⟨fun _ _ _ _ _ _ ⟨A, ρ, S, N⟩ => by simp only [evE] at N; exact N.elim⟩
theorem pt_omit {e : Expr} : PT X e (TTx X Z C (.tr .omit)) := ⟨fun _ _ _ _ _ _ ⟨A, ρ, S, N⟩ => by simp only [evT, evE] at N; exact N.elim⟩
theorem star_ns {e : Expr} (h : nst e = true) (es : List Expr) (env : PySem.Env) : starEach (e :: es) env = (false, eval e env) :: starEach es env := by
  cases e <;> first | rfl | cases h
theorem star_any {pos : Pos} {env : PySem.Env} : ∀ {es : List Expr}, es.all nst = true → (backTo pos (starEach es env)).any (·.1) = false
  | [], _ => rfl
  | e :: es, h => by
    obtain ⟨h1, h2⟩ := Bool.and_eq_true_iff.mp (show (nst e && es.all nst) = true from h)
    rw [star_ns h1]
    show (false || (backTo pos (starEach es env)).any (·.1)) = false
    rw [star_any h2] <;> rfl
theorem mark_ns {op : CmpOp} {b : Expr} (h : notSet b = true) : behindInMarks op b = false := by cases b <;> first | rfl | cases h
theorem fold_ns {b : Expr} (h : notSet b = true) (env : PySem.Env) : ∀ x, foldedSetIterable b env x = pure x := by
  intro x
  cases b <;> first | rfl | cases h
theorem ix_ns {b : Expr} (h : notSlc b = true) : PlainIx b := by
  intro o i
  cases b <;> first | rfl | cases h
/-- an expression list -/
theorem pa_ok {r : Expr → Ex} (hr : ∀ e, PE X e (TEx X Z C (r e))) : ∀ es : List Expr, PA X es (TAx X Z C (trA r es))
  | [] => MP.PA.imp pa_nil a_nil
  | e :: es => by
    unfold trA
    split
    · rename_i h
      exact MP.PA.imp (pa_cons (hr e) (pa_ok hr es) (star_ns h es X.env)) a_cons
    · exact ⟨fun _ _ _ _ _ _ _ ⟨A, ρ, S, N⟩ => by simp only [evA] at N; exact N.elim⟩
theorem pk_ok {r : Expr → Ex} (hr : ∀ e, PE X e (TEx X Z C (r e))) : ∀ ks : List Keyword, PK X ks (TAx X Z C (trKw r ks))
  | [] => ⟨fun pos pins s σ H Q I h => pk_nil.run pos pins s σ H Q I (a_nil σ H Q h)⟩
  | ⟨x, e, p⟩ :: ks => ⟨fun pos pins s σ H Q I h => (pk_cons (hr e) (pk_ok hr ks)).run pos pins s σ H Q I (a_cons σ H Q h)⟩
theorem trA_len {r : Expr → Ex} : ∀ {es : List Expr}, es.all nst = true → argsLen (trA r es) = es.length
  | [], _ => rfl
  | e :: es, h => by
    obtain ⟨h1, h2⟩ := Bool.and_eq_true_iff.mp (show (nst e && es.all nst) = true from h)
    unfold trA
    rw [if_pos h1]
    simp [argsLen, trA_len (r := r) h2]
theorem trKw_len {r : Expr → Ex} : ∀ {ks : List Keyword} {ns : List Str}, kwNames ks = some ns → argsLen (trKw r ks) = ns.length
  | [], ns, h => by simp only [kwNames] at h; cases h; rfl
  | ⟨some x, e, p⟩ :: ks, ns, h => by
    simp only [kwNames, Option.map_eq_some_iff] at h
    obtain ⟨ms, h1, rfl⟩ := h
    simp [trKw, argsLen, trKw_len (r := r) h1]
  | ⟨none, e, p⟩ :: ks, ns, h => by simp [kwNames] at h
theorem kw_all {pos : Pos} {env : PySem.Env} : ∀ {ks : List Keyword} {ns : List Str}, kwNames ks = some ns → (backToKw pos (keywordEach ks env)).all (·.1.isSome) = true ∧ (backToKw pos (keywordEach ks env)).filterMap (·.1) = ns ∧ (backToKw pos (keywordEach ks env)).any (·.1.isNone) = false
  | [], ns, h => by simp only [kwNames] at h; cases h; exact ⟨rfl, rfl, rfl⟩
  | ⟨some x, e, p⟩ :: ks, ns, h => by
    simp only [kwNames, Option.map_eq_some_iff] at h
    obtain ⟨ms, h1, rfl⟩ := h
    obtain ⟨k1, k2, k3⟩ := kw_all (pos := pos) (env := env) h1
    refine ⟨?_, ?_, ?_⟩
    · show (true && (backToKw pos (keywordEach ks env)).all (·.1.isSome)) = true
      rw [k1] <;> rfl
    · show x :: (backToKw pos (keywordEach ks env)).filterMap (·.1) = x :: ms
      rw [k2]
    · show (false || (backToKw pos (keywordEach ks env)).any (·.1.isNone)) = false
      rw [k3] <;> rfl
  | ⟨none, e, p⟩ :: ks, ns, h => by simp [kwNames] at h
/-! ### operators -/
theorem bin_rule {op : Operator} {o : O2} (h : o2b op = some o) : ∃ r, OpR X (binaryOp op) r ∧ Rule2 X.K (sem2 o) r := by
  cases op <;> simp only [o2b] at h <;> first | (cases h; done) | skip
  all_goals cases h
  · exact ⟨_, op_add.or (op_cat.or (op_catA.or op_add_str)), ru_add⟩
  · exact ⟨_, op_sub, ru_sub⟩
  · exact ⟨_, op_mul, ru_mul⟩
  · exact ⟨_, op_mod, ru_mod⟩
  · exact ⟨_, op_pow, ru_pow⟩
  · exact ⟨_, op_fdiv, ru_fdiv⟩
theorem cmp_rule {op : CmpOp} {o : O2} (hu : X.A.units + 66 < cLine) (h : o2c op = some o) : ∃ r, OpR X (compareOp op) r ∧ Rule2 X.K (sem2 o) r := by
  cases op <;> simp only [o2c] at h <;> cases h
  · exact ⟨_, op_eqX (by omega), ru_eq⟩
  · exact ⟨_, op_neX (by omega), ru_ne⟩
  · exact ⟨_, op_lt, ru_lt⟩
  · exact ⟨_, op_le, ru_le⟩
  · exact ⟨_, op_gt, ru_gt⟩
  · exact ⟨_, op_ge, ru_ge⟩
  · exact ⟨_, op_isBl, ru_isB⟩
  · exact ⟨_, op_notBl, ru_notB⟩
  · exact ⟨_, op_inD (by omega), ru_in⟩
  · exact ⟨_, op_notInD (by omega), ru_nin⟩
theorem bi1_rule {x : Str} {o : O1} (hc : X.calm = true) (hg : X.A.guards = some []) (hu : X.A.units + 66 < cLine) (h : bi1 x = some o) :
    ∃ v r, bootBuiltins x = some v ∧ ((∃ id, v = .builtin id) ∨ (∃ T, v = .type T)) ∧ CallR X v r ∧ RuleC X.K (sem1 o) r := by
  unfold bi1 at h
  repeat' split at h
  all_goals first | (cases h; done) | skip
  all_goals cases h
  all_goals subst x
  · exact ⟨_, _, (by decide +kernel), .inl ⟨_, rfl⟩, call_lenX, ru_len⟩
  · exact ⟨_, _, (by decide +kernel), .inl ⟨_, rfl⟩, call_abs, ru_abs⟩
  · exact ⟨_, _, (by decide +kernel), .inr ⟨_, rfl⟩, call_int1, ru_toInt⟩
  · exact ⟨_, _, (by decide +kernel), .inl ⟨_, rfl⟩, cr_sum hc, ru_sum⟩
  · exact ⟨_, _, (by decide +kernel), .inl ⟨_, rfl⟩, cr_any hc, ru_any⟩
  · exact ⟨_, _, (by decide +kernel), .inl ⟨_, rfl⟩, cr_all hc, ru_all⟩
  · exact ⟨_, _, (by decide +kernel), .inr ⟨_, rfl⟩, call_list_of, ru_toLst⟩
  · exact ⟨_, _, (by decide +kernel), .inr ⟨_, rfl⟩, call_tuple_of, ru_toTup⟩
  · exact ⟨_, _, (by decide +kernel), .inl ⟨_, rfl⟩, call_mxL hc (by omega), ru_mxL⟩
  · exact ⟨_, _, (by decide +kernel), .inl ⟨_, rfl⟩, call_mnL hc (by omega), ru_mnL⟩
  · exact ⟨_, _, (by decide +kernel), .inl ⟨_, rfl⟩, call_reprX hg hu, ru_repr⟩
  · exact ⟨_, _, (by decide +kernel), .inl ⟨_, rfl⟩, call_sortX hu, ru_sort⟩
theorem ru_dm' {K : PySem.W.Frag} : Rule2 K (sem2 .dm) (fun x y H Q => ∃ i j, [x, y] = [V.int i, V.int j] ∧ CDiv i j ∧ ∀ p, H p = none → Q (.ref p) (upd H p (.tup [.int (i / j), .int (i % j)]))) := by
  intro A H x y u v o Q hA hx hy e k
  obtain ⟨i, j, rfl, rfl, q⟩ := ru_dm A H x y u v o Q hA hx hy e k
  exact ⟨i, j, rfl, q⟩
theorem bi2_rule {x : Str} {o : O2} (hc : X.calm = true) (h : bi2 x = some o) :
    ∃ v r, bootBuiltins x = some v ∧ (∃ id, v = .builtin id) ∧ CallR X v r ∧ Rule2 X.K (sem2 o) (fun x y H Q => r [x, y] H Q) := by
  unfold bi2 at h
  repeat' split at h
  all_goals first | (cases h; done) | skip
  all_goals cases h
  all_goals subst x
  · exact ⟨_, _, (by decide +kernel), ⟨_, rfl⟩, call_max2 hc, ru_mx⟩
  · exact ⟨_, _, (by decide +kernel), ⟨_, rfl⟩, call_min2 hc, ru_mn⟩
  · exact ⟨_, _, (by decide +kernel), ⟨_, rfl⟩, call_divmod, ru_dm'⟩
theorem ty_rule {x : Str} {o : O1} (h : tyO x = some o) : ∃ S, bootBuiltins x = some (.type S) ∧ Rule1 X.K (sem1 o) (rIsiB X.K S) := by
  unfold tyO at h
  repeat' split at h
  all_goals first | (cases h; done) | skip
  all_goals cases h
  all_goals subst x
  · exact ⟨_, (by decide +kernel), ru_isI⟩
  · exact ⟨_, (by decide +kernel), ru_isBl⟩
  · exact ⟨_, (by decide +kernel), ru_isS⟩
  · exact ⟨_, (by decide +kernel), ru_isTup⟩
  · exact ⟨_, (by decide +kernel), ru_isLst⟩
theorem ru_not {K : PySem.W.Frag} : Rule1 K (sem1 .not) (fun x H Q => ∃ c, x = .bl c ∧ Q (.bl (!c)) H) := by
  intro A H x u o Q hA hx e k
  cases u with
  | bl b =>
    simp only [sem1] at e
    cases e
    exact ⟨b, rdBl hx, k _ _ _ (res_d (.bl _))⟩
  | _ => simp [sem1] at e
end
end MP
/-! MO: the little language's expressions say what the program's do. Own work. -/
namespace MP
open PySem
open PySem.Spec
open PyProof.Rows
open L2
theorem cmp_bl {op : CmpOp} {o : O2} (h : o2c op = some o) {u v : MP.D} {q : Op} (e : sem2 o u v = some q) : ∃ k, q = .d (.bl k) := by
  cases op <;> simp only [o2c] at h <;> cases h
  all_goals
    cases u <;> cases v <;> simp only [sem2, isT1, Option.bind_none, Option.bind_some] at e <;> first
      | (cases e; done)
      | (cases e; exact ⟨_, rfl⟩)
      | (split at e <;> first
          | (cases e; done)
          | (cases e; exact ⟨_, rfl⟩))
section
variable {X : Cx} {C : Ctx} {T : Tc} {n : Nat} {Z : Act} (w : Wd X C T n)
include w
theorem N_ok (x : Str) (p : Pos) : PE X (.Name x p) (TEx X Z C (trN T x)) := by
  unfold trN
  split
  · rename_i i h
    obtain ⟨h1, h2, h3⟩ := w.vr h
    obtain ⟨d1, d2, _⟩ := okN_d h3
    exact PE.imp (pe_var h1 h2 d1 d2) e_var
  · split
    · rename_i h
      obtain ⟨hg, ho⟩ := w.gl h
      split
      · rename_i g hc
        obtain ⟨u, v, h1, h2, h3⟩ := w.csts x g hc
        refine PE.imp (pe_glob hg h1 h2 (okN_d ho).1) fun σ H Q q => e_lit (G := gd' X.K) (Z := Z) (W := W0) (C := C) (d := C.cst g) h3 σ H Q ?_
        simpa only [tE, evE] using q
      · exact pe_omit
    · exact pe_omit
omit w in
theorem C_ok (c : Const) (k : Nat) (p : Pos) : PE X (.Constant c k p) (TEx X Z C (trC c)) := by
  cases c with
  | int i => exact PE.imp pe_int (e_lit fun _ _ => .int i)
  | bool b => exact PE.imp pe_bl (e_lit fun _ _ => .bl b)
  | none => exact PE.imp pe_non (e_lit fun _ _ => .non)
  | str s =>
    refine PE.imp pe_str (e_lit fun A H => ?_)
    have e : s = ⟨s.cps.toList.toArray⟩ := by cases s; simp
    have q : RepA (gd' X.K).K A H (.str ⟨s.cps.toList.toArray⟩) (.str s.cps.toList) := .str _
    rw [← e] at q
    exact q
  | _ => exact pe_omit
variable {r : Expr → Ex} (hr : ∀ e, PE X e (TEx X Z C (r e)))
include hr
theorem Cmp_ok (a : Expr) (p : Pos) : ∀ (ops : List CmpOp) (bs : List Expr), PE X (.Compare a ops bs p) (TEx X Z C (trCmp r a ops bs)) ∧ PT X (.Compare a ops bs p) (TTx X Z C (.tr (trCmp r a ops bs)))
  | [op], [b] => by
    have core : ∀ {o : O2} {f : V → V → Hp → VK → Prop}, OpR X (compareOp op) f → Rule2 X.K (sem2 o) f → (∀ u v q, sem2 o u v = some q → ∃ k, q = .d (.bl k)) → notSet b = true → PE X (.Compare a [op] [b] p) (TEx X Z C (.u2 o (r a) (r b))) ∧ PT X (.Compare a [op] [b] p) (TTx X Z C (.tr (.u2 o (r a) (r b)))) := fun {o f} ho hf hb hs =>
      ⟨PE.imp (pe_cmpR ho (hr a) (hr b) (mark_ns hs)) (e_u2 hf), PT.imp (pt_cmpR ho (hr a) (hr b) (mark_ns hs)) fun σ H Q q => e_u2 hf σ H _ (t_trB σ H Q q fun ρ x e => by
        simp only [evE] at e
        obtain ⟨_, _, e⟩ := rs_bind e
        obtain ⟨_, _, e⟩ := rs_bind e
        obtain ⟨u, _, e⟩ := rs_ofO e
        obtain ⟨v, _, e⟩ := rs_ofO e
        obtain ⟨q, h, e⟩ := rs_ofO e
        cases e
        exact hb u v q h)⟩
    have two : notSet b = true → PE X (.Compare a [op] [b] p) (TEx X Z C (trCmpO r a b op)) ∧ PT X (.Compare a [op] [b] p) (TTx X Z C (.tr (trCmpO r a b op))) := fun hs => by
      unfold trCmpO
      cases ho : o2c op with
      | none => exact ⟨pe_omit, pt_omit⟩
      | some o =>
        obtain ⟨f, h1, h2⟩ := cmp_rule (X := X) w.un ho
        exact core h1 h2 (fun u v q h => cmp_bl ho h) hs
    show PE X (.Compare a [op] [b] p) (TEx X Z C (if isNoneE b then trCmpN r a b op else if notSet b then trCmpO r a b op else .omit)) ∧ PT X (.Compare a [op] [b] p) (TTx X Z C (.tr (if isNoneE b then trCmpN r a b op else if notSet b then trCmpO r a b op else .omit)))
    by_cases hn : isNoneE b = true
    · rw [if_pos hn]
      have hs : notSet b = true := by
        cases b with
        | Set _ _ _ => cases hn
        | _ => rfl
      obtain ⟨k, p', rfl⟩ : ∃ k p', b = .Constant .none k p' := by
        cases b with
        | Constant c k p' =>
          cases c with
          | none => exact ⟨k, p', rfl⟩
          | _ => cases hn
        | _ => cases hn
      cases op with
      | Is =>
        show PE X _ (TEx X Z C (.u1 .isN (r a))) ∧ PT X _ (TTx X Z C (.tr (.u1 .isN (r a))))
        refine ⟨PE.imp (pe_cmp (pc_isN (hr a)) (mark_ns hs)) fun σ H Q q => e_u1 ru_isN σ H Q q, PT.imp (pt_cmp (pc_isN (hr a)) (mark_ns hs)) fun σ H Q q => e_u1 ru_isN σ H _ (t_trB σ H Q q fun ρ x e => ?_)⟩
        simp only [evE] at e
        obtain ⟨_, _, e⟩ := rs_bind e
        obtain ⟨u, _, e⟩ := rs_ofO e
        obtain ⟨q, h, e⟩ := rs_ofO e
        cases e
        simp only [sem1] at h
        cases h
        exact ⟨_, rfl⟩
      | IsNot =>
        show PE X _ (TEx X Z C (.u1 .notN (r a))) ∧ PT X _ (TTx X Z C (.tr (.u1 .notN (r a))))
        refine ⟨PE.imp (pe_cmp (pc_notN (hr a)) (mark_ns hs)) fun σ H Q q => e_u1 ru_notN σ H Q q, PT.imp (pt_cmp (pc_notN (hr a)) (mark_ns hs)) fun σ H Q q => e_u1 ru_notN σ H _ (t_trB σ H Q q fun ρ x e => ?_)⟩
        simp only [evE] at e
        obtain ⟨_, _, e⟩ := rs_bind e
        obtain ⟨u, _, e⟩ := rs_ofO e
        obtain ⟨q, h, e⟩ := rs_ofO e
        cases e
        simp only [sem1] at h
        cases h
        exact ⟨_, rfl⟩
      | _ => exact two hs
    · rw [if_neg hn]
      by_cases hs : notSet b = true
      · rw [if_pos hs]
        exact two hs
      · rw [if_neg hs]
        exact ⟨pe_omit, pt_omit⟩
  | [o1, o2], [b, c] => by
    show PE X (.Compare a [o1, o2] [b, c] p) (TEx X Z C (if notSet c then trCmp2 (r a) (r b) (r c) (o2c o1) (o2c o2) else .omit)) ∧ PT X (.Compare a [o1, o2] [b, c] p) (TTx X Z C (.tr (if notSet c then trCmp2 (r a) (r b) (r c) (o2c o1) (o2c o2) else .omit)))
    by_cases hs : notSet c = true
    · rw [if_pos hs]
      cases h1 : o2c o1 with
      | none => exact ⟨pe_omit, pt_omit⟩
      | some p1 =>
        cases h2 : o2c o2 with
        | none => exact ⟨pe_omit, pt_omit⟩
        | some p2 =>
          obtain ⟨f, k1, k2⟩ := cmp_rule (X := X) w.un h1
          obtain ⟨f', k3, k4⟩ := cmp_rule (X := X) w.un h2
          have hm : lastMarks [o1, o2] [b, c] = false := mark_ns hs
          refine ⟨PE.imp (pe_chain k1 k3 (hr a) (hr b) (hr c) hm) (e_chain k2 k4), PT.imp (pt_chain k1 k3 (hr a) (hr b) (hr c) hm) fun σ H Q q => e_chain k2 k4 σ H _ (t_trB σ H Q q fun ρ x e => ?_)⟩
          simp only [trCmp2, evE] at e
          obtain ⟨_, _, e⟩ := rs_bind e
          obtain ⟨_, _, e⟩ := rs_bind e
          obtain ⟨u, _, e⟩ := rs_ofO e
          obtain ⟨v, _, e⟩ := rs_ofO e
          obtain ⟨q, h, e⟩ := rs_ofO e
          obtain ⟨k, rfl⟩ := cmp_bl h1 h
          cases k with
          | false => cases e; exact ⟨false, rfl⟩
          | true =>
            dsimp only at e
            obtain ⟨_, _, e⟩ := rs_bind e
            obtain ⟨u, _, e⟩ := rs_ofO e
            obtain ⟨v, _, e⟩ := rs_ofO e
            obtain ⟨q, h, e⟩ := rs_ofO e
            cases e
            exact cmp_bl h2 h
    · rw [if_neg hs]
      exact ⟨pe_omit, pt_omit⟩
  | [], _ => by unfold trCmp; exact ⟨pe_omit, pt_omit⟩
  | _ :: _ :: _ :: _, _ => by unfold trCmp; exact ⟨pe_omit, pt_omit⟩
  | [_], [] => by unfold trCmp; exact ⟨pe_omit, pt_omit⟩
  | [_], _ :: _ :: _ => by unfold trCmp; exact ⟨pe_omit, pt_omit⟩
  | [_, _], [] => by unfold trCmp; exact ⟨pe_omit, pt_omit⟩
  | [_, _], [_] => by unfold trCmp; exact ⟨pe_omit, pt_omit⟩
  | [_, _], _ :: _ :: _ :: _ => by unfold trCmp; exact ⟨pe_omit, pt_omit⟩
omit w in
theorem And_ok (p : Pos) : ∀ vs : List Expr, PE X (.BoolOp .And vs p) (TEx X Z C (trAnd r vs))
  | [] => pe_omit
  | [a] => pe_one (hr a)
  | a :: b :: rest => PE.imp (pe_and (hr a) (And_ok p (b :: rest))) e_an
omit w in
theorem Or_ok (p : Pos) : ∀ vs : List Expr, PE X (.BoolOp .Or vs p) (TEx X Z C (trOr r vs))
  | [] => pe_omit
  | [a] => pe_one (hr a)
  | a :: b :: rest => PE.imp (pe_or (hr a) (Or_ok p (b :: rest))) e_or
omit w in
theorem P_ok (e : Option Expr) : ∃ tp, PO X e tp ∧ ∀ σ H A ρ (P : Option Int → Hp → Prop), SR (gd' X.K).K Z A σ H ρ → Out (gd' X.K) Z W0 σ A H (evP C (trP r e) ρ) (fun q => ∀ A' H', SR (gd' X.K).K Z A' σ H' q.2 → Ev σ ρ A H q.2 A' H' → P q.1 H') → tp σ H P := by
  cases e with
  | none => exact ⟨_, po_none, p_none⟩
  | some e => exact ⟨_, po_some (hr e), p_some⟩
end
theorem PI.imp {X : Cx} {tg e : Expr} {t t' : TI} (h : L2.PI X tg e t) (m : ∀ σ H R, t' σ H R → t σ H R) : L2.PI X tg e t' := ⟨fun pins s σ H R I q => h.run pins s σ H R I (m σ H R q)⟩
section
variable {X : Cx} {C : Ctx} {T : Tc} {n : Nat} {Z : Act} (w : Wd X C T n) {r : Expr → Ex} (hr : ∀ e, PE X e (TEx X Z C (r e)))
include w hr
theorem rg_ok {e : Expr} {g : Ex} (h : trRg r T e = some g) : (∀ tg, PI X tg e (tI (gd' X.K) Z W0 (evI C g))) ∧
    ∀ (p pos : Pos), Gl X "list" → X.mg "list" = none → PE X (.Call (.Name "list" p) [e] [] pos) (TEx X Z C (.lrg g)) := by
  unfold trRg at h
  split at h
  · rename_i x p a pos
    split at h
    · rename_i c
      obtain ⟨⟨rfl, c1⟩, c2⟩ := c
      cases h
      obtain ⟨g1, g2, g3⟩ := w.bi c1
      refine ⟨fun tg => MP.PI.imp (pi_range1 g1 g2 (pa_cons (hr a) pa_nil (star_ns c2 [] X.env)) (star_ns c2 [] X.env)) i_rng1, fun p pos l1 l2 => ?_⟩
      exact PE.imp (pe_listRg w.calm l1 l2 (prg_1 g1 g2 (hr a) (star_ns c2 [] X.env)) rfl) e_lrg1
    · cases h
  · rename_i x p a b pos
    split at h
    · rename_i c
      obtain ⟨⟨rfl, c1⟩, c2, c3⟩ := c
      cases h
      obtain ⟨g1, g2, g3⟩ := w.bi c1
      have s2 := star_ns c2 [b] X.env
      have s1 := star_ns c3 [] X.env
      refine ⟨fun tg => MP.PI.imp (pi_range2 g1 g2 (pa_cons (hr a) (pa_cons (hr b) pa_nil s1) s2) (by rw [s2, s1] <;> rfl) s1) i_rng2, fun p pos l1 l2 => ?_⟩
      exact PE.imp (pe_listRg w.calm l1 l2 (prg_2 g1 g2 (hr a) (hr b) s2 s1 (star_any (es := [b]) (by simp [c3]))) rfl) e_lrg2
    · cases h
  · cases h
end
end MP
/-! MQ: calls, targets, comprehensions; the theorem of expressions. Own work. -/
namespace MP
open PySem
open PySem.Spec
open PyProof.Rows
open L2
section
variable {X : Cx} {k : Nat} {f : Addr} {fd : FuncData} {ps : List Str} {sp : SpN} {x : Str} {p pos : Pos} {es : List Expr} {ks : List Keyword} {ns : List Str} {pm : List Nat} {t tk : TA}
theorem vals_getD : ∀ {vs : List V} {us : List Value}, Vals vs us → ∀ j, L2.RelV (vs.getD j .non) (us.getD j .none)
  | _, _, .nil, j => by show L2.RelV ([].getD j V.non) ([].getD j Value.none); simp; rfl
  | _, _, .cons r h, 0 => r
  | _, _, .cons r h, j + 1 => by simpa using vals_getD h j
theorem vals_pick {vs : List V} {us : List Value} (h : Vals vs us) : ∀ pm : List Nat, Vals (pickV vs pm) (pm.map fun j => us.getD j .none)
  | [] => .nil
  | j :: pm => .cons (vals_getD h j) (vals_pick h pm)
theorem pe_callKG (F : FnG X.prog X.w X.K X.mg X.base k f fd ps sp) (room : Room k X.A) (gu : X.A.guards = some []) (hg : Gl X x) (hm : X.mg x = some (.ref f)) (kp : PySem.W.keepIn X.K (.ref f) = true) (hb : KBP X.K fd ps es.length ns pm)
    (ha : PA X es t) (hkw : PK X ks tk) (hn : kwNames ks = some ns) (hdb : (x == ("__debug__" : Str)) = false) (hs : es.all nst = true) (hz : es = [] → ∀ σ H Q, t σ H Q → Q [] H) :
    PE X (.Call (.Name x p) es ks pos) (tCallKG sp es.length ns.length pm t tk) := by
  obtain ⟨k1, k2, k3⟩ := kw_all (pos := pos) (env := X.env) hn
  have core : ∀ {pins : List (Addr × Obj)} {σ : L2.St} {H : Hp} {s : Shared} {Q : VK} {us ws : List Value} {vs zs : List V}, Inv X pins σ H s → Vals vs us → Vals zs ws → vs.length = es.length → zs.length = ns.length → sp (pickV (vs ++ zs) pm) H Q →
      wpAny (model X.prog X.w) X.A (call (.ref f) us (ns.zip ws)) (EP X pins σ Q) X.xe s := fun {pins σ H s Q us ws vs zs} I r rz l1 l2 h =>
    doG F room gu I (hb s us ws I.kIn (r.length.symm.trans l1) (rz.length.symm.trans l2)) (vals_pick (r.append rz) pm) h
  refine ⟨fun pins s σ H Q I h => wpAny_Call_Name_kw (ld_glob I hg hm ?_ hdb)⟩
  cases es with
  | nil =>
    refine PySem.W.callWith_KW0 (h₀ := X.base) I.ok.mod.kin kp k1 ?_ (by show (false || _) = false; rw [k3] <;> rfl)
    refine thn (hkw.run pos pins s σ H _ I (hz rfl σ H _ h)) fun ws s2 ⟨zs, H2, I2, rz, l1, l2, q2⟩ => ⟨I2.kIn, ?_⟩
    rw [k2]
    exact core (us := []) (vs := []) I2 .nil rz l1 l2 q2
  | cons e es =>
    have hs' := Bool.and_eq_true_iff.mp (show (nst e && es.all nst) = true from hs)
    refine PySem.W.callWith_KW (h₀ := X.base) I.ok.mod.kin kp k1 (thn (ha.run pos pins s σ H _ I h) fun us s1 ⟨vs, H1, I1, r, q⟩ => ?_) (by rw [star_any hs, k3] <;> rfl) (star_ns hs'.1 es X.env)
    refine thn (hkw.run pos pins s1 σ H1 _ I1 q) fun ws s2 ⟨zs, H2, I2, rz, l1, l2, q2⟩ => ⟨I2.kIn, ?_⟩
    rw [k2]
    exact core I2 r rz l1 l2 q2
end

section
variable {X : Cx} {C : Ctx} {T : Tc} {n : Nat} {Z : Act}
/-- a constant or a name -/
theorem Bi_ok (w : Wd X C T n) {r : Expr → Ex} (hr : ∀ e, PE X e (TEx X Z C (r e))) {x : Str} {p pos : Pos} (hb : bi T x = true) : ∀ es : List Expr, PE X (.Call (.Name x p) es [] pos) (TEx X Z C (trBi r T x es))
  | [] => pe_omit
  | [a] => by
    obtain ⟨g1, g2, g3⟩ := w.bi hb
    obtain ⟨d1, _, d3⟩ := okN_d g3
    have one : ∀ {o : O1}, bi1 x = some o → nst a = true → PE X (.Call (.Name x p) [a] [] pos) (TEx X Z C (.u1 o (r a))) := fun {o} h hs => by
      obtain ⟨v, f, h1, h2, h3, h4⟩ := bi1_rule (X := X) w.calm w.gu w.un h
      rcases h2 with ⟨id, rfl⟩ | ⟨S, rfl⟩
      · exact PE.imp (pe_callB h3 g1 g2 h1 (pa_cons (hr a) pa_nil (star_ns hs [] X.env)) d3 d1 (star_ns hs [] X.env) rfl) fun σ H Q q => e_u1 (G := gd' X.K) (r := fun x H Q => f [x] H Q) h4 σ H Q q
      · exact PE.imp (pe_callTy h3 g1 g2 h1 (pa_cons (hr a) pa_nil (star_ns hs [] X.env)) d3 d1 (star_ns hs [] X.env) rfl) fun σ H Q q => e_u1 (G := gd' X.K) (r := fun x H Q => f [x] H Q) h4 σ H Q q
    show PE X _ (TEx X Z C (if x = "list" then (match trRg r T a with
      | some g => .lrg g
      | none => if nst a then .u1 .toLst (r a) else .omit)
    else match bi1 x with
      | some o => if nst a then .u1 o (r a) else .omit
      | none => .omit))
    by_cases hx : x = "list"
    · rw [if_pos hx]
      cases hrg : trRg r T a with
      | some g =>
        subst hx
        exact (rg_ok w hr hrg).2 p pos g1 g2
      | none =>
        dsimp only
        by_cases hs : nst a = true
        · rw [if_pos hs]
          exact one (by rw [hx] <;> rfl) hs
        · rw [if_neg hs]; exact pe_omit
    · rw [if_neg hx]
      cases hb1 : bi1 x with
      | none => exact pe_omit
      | some o =>
        dsimp only
        by_cases hs : nst a = true
        · rw [if_pos hs]
          exact one hb1 hs
        · rw [if_neg hs]; exact pe_omit
  | [a, b] => by
    obtain ⟨g1, g2, g3⟩ := w.bi hb
    obtain ⟨d1, _, d3⟩ := okN_d g3
    dsimp only [trBi]
    by_cases hx : x = "isinstance"
    · rw [if_pos hx]
      subst hx
      cases b with
      | Name t q =>
        dsimp only
        by_cases hc : (bi T t && nst a) = true
        · rw [if_pos hc]
          obtain ⟨c1, c2⟩ := Bool.and_eq_true_iff.mp hc
          obtain ⟨t1, t2, t3⟩ := w.bi c1
          obtain ⟨e1, _, e3⟩ := okN_d t3
          cases ht : tyO t with
          | none => exact pe_omit
          | some o =>
            obtain ⟨S, h1, h2⟩ := ty_rule (X := X) ht
            have pt : PE X (.Name t q) (tC (.ty S)) := pe_bltn t1 t2 h1 rfl e3 e1
            exact PE.imp (pe_callB call_isi g1 g2 (by decide +kernel) (pa_cons (hr a) (pa_cons pt pa_nil (star_ns rfl [] X.env)) (star_ns c2 _ X.env)) d3 d1 (star_ns c2 _ X.env) (star_any (by rfl))) fun σ H Q q => e_u1 (G := gd' X.K) h2 σ H Q q
        · rw [if_neg hc]; exact pe_omit
      | _ => exact pe_omit
    · rw [if_neg hx]
      cases hb2 : bi2 x with
      | none => exact pe_omit
      | some o =>
        dsimp only
        by_cases hc : (nst a && nst b) = true
        · rw [if_pos hc]
          obtain ⟨c1, c2⟩ := Bool.and_eq_true_iff.mp hc
          obtain ⟨v, f, h1, ⟨id, rfl⟩, h3, h4⟩ := bi2_rule (X := X) w.calm hb2
          exact PE.imp (pe_callB h3 g1 g2 h1 (pa_cons (hr a) (pa_cons (hr b) pa_nil (star_ns c2 [] X.env)) (star_ns c1 [b] X.env)) d3 d1 (star_ns c1 [b] X.env) (star_any (es := [b]) (by simp [c2]))) fun σ H Q q => e_u2 (G := gd' X.K) h4 σ H Q q
        · rw [if_neg hc]; exact pe_omit
  | _ :: _ :: _ :: _ => pe_omit
/-- arguments -/
theorem pc_ok {r : Expr → Ex} (hr : ∀ e, PE X e (TEx X Z C (r e))) : ∀ (bs : List Bool) (es : List Expr), PA X es (tCs (gd' X.K) Z W0 (evC C bs (trA r es)))
  | bs, [] => MP.PA.imp pa_nil c_nil
  | bs, e :: es => by
    unfold trA
    split
    · rename_i h
      cases bs with
      | nil => exact MP.PA.imp (pa_cons (hr e) (pc_ok hr [] es) (star_ns h es X.env)) (c_consF (bs := []) (by simp))
      | cons b bs =>
        cases b with
        | true => exact MP.PA.imp (pa_cons (hr e) (pc_ok hr bs es) (star_ns h es X.env)) c_consT
        | false => exact MP.PA.imp (pa_cons (hr e) (pc_ok hr bs es) (star_ns h es X.env)) (c_consF (bs := false :: bs) (by simp))
    · refine ⟨fun _ _ _ _ _ _ _ ⟨A, ρ, S, N⟩ => ?_⟩
      have e0 : evC C bs .omit ρ = .st := by
        cases bs with
        | nil => simp only [evC]
        | cons b bs => cases b <;> simp only [evC]
      rw [e0] at N
      exact N.elim
theorem attr_name {x : Str} {p : Pos} {m : Str} {env : PySem.Env} : attributeBase (.Name x p) m env (eval (.Name x p) env) = eval (.Name x p) env := by rfl
theorem Call_ok (w : Wd X C T n) {r : Expr → Ex} (hr : ∀ e, PE X e (TEx X Z C (r e))) (f : Expr) (es : List Expr) (ks : List Keyword) (pos : Pos) : PE X (.Call f es ks pos) (TEx X Z C (trCall r T pos f es ks)) := by
  unfold trCall
  split
  · rename_i x p
    split
    · rename_i k hk
      obtain ⟨fa, fd, ps, F, hm, kp, hb, hkw⟩ := w.tops x k hk
      split
      · rename_i hc
        obtain ⟨c1, c2⟩ := Bool.and_eq_true_iff.mp hc
        obtain ⟨g1, g3⟩ := w.gl c1
        obtain ⟨d1, _, _⟩ := okN_d g3
        split
        · cases es with
          | nil => exact PE.imp (pe_callG0 F w.room w.gu g1 hm kp hb d1) fun σ H Q q => c_nil σ H _ (e_call σ H Q q)
          | cons e es =>
            obtain ⟨s1, s2⟩ := Bool.and_eq_true_iff.mp (show (nst e && es.all nst) = true from c2)
            exact PE.imp (pe_callG F w.room w.gu g1 hm kp hb (pc_ok hr (C.io k) (e :: es)) d1 (star_ns s1 es X.env) (star_any s2)) e_call
        · split
          · rename_i ns hn
            split
            · rename_i pm hp
              refine PE.imp (pe_callKG F w.room w.gu g1 hm kp (hkw _ _ _ hp) (pa_ok hr es) (pk_ok hr _) hn d1 c2 fun e => ?_) fun σ H Q q => ?_
              · subst e
                exact a_nil
              · have z := e_callK σ H Q q
                rw [trA_len c2, trKw_len hn] at z
                exact z
            · exact pe_omit
          · exact pe_omit
      · exact pe_omit
    · split
      · rename_i hb
        split
        · exact Bi_ok w hr hb es
        · exact pe_omit
      · exact pe_omit
  · rename_i x p m ap
    split
    · rename_i e i hv
      split
      · rename_i hc
        obtain ⟨c1, c2⟩ := Bool.and_eq_true_iff.mp hc
        obtain ⟨h1, h2, h3⟩ := w.vr hv
        obtain ⟨d1, d2, _⟩ := okN_d h3
        have hN : PE X (.Name x p) (tVar i) := pe_var h1 h2 d1 d2
        have few : ((backTo pos (starEach [e] X.env)).all (fun x => !x.1) && (backToKw pos (keywordEach [] X.env)).all (fun x => x.1.isSome) && decide ([e].length + ([] : List Keyword).length + (if ([] : List Keyword).isEmpty then 0 else 1) < 30)) = true := by
          rw [star_ns c1] <;> rfl
        split
        · rename_i hm
          subst hm
          exact PE.imp (pe_bm F.plainAttrs_list F.slot_list_append F.type_list_append mt_append hN (pa_cons (hr e) pa_nil (star_ns c1 [] X.env)) attr_name few c2 (star_ns c1 [] X.env) rfl) e_app
        · split
          · rename_i hm
            subst hm
            exact PE.imp (pe_bm F.plainAttrs_list F.slot_list_pop F.type_list_pop mt_popAt hN (pa_cons (hr e) pa_nil (star_ns c1 [] X.env)) attr_name few c2 (star_ns c1 [] X.env) rfl) e_popAt
          · exact pe_omit
      · exact pe_omit
    · exact pe_omit
  · exact pe_omit
end
end MP
/-! MR: targets, what is walked, comprehensions; the theorem of expressions. Own work. -/
namespace MP
open PySem
open PySem.Spec
open PyProof.Rows
open L2
abbrev TGx (X : Cx) (Z : Act) (t : Tg) : TG := tG X.K Z t
theorem PG.imp {X : Cx} {e : Expr} {t t' : TG} (h : L2.PG X e t) (m : ∀ v σ H Q, t' v σ H Q → t v σ H Q) : L2.PG X e t' := ⟨fun pins s σ H v u Q I r q => h.run pins s σ H v u Q I r (m v σ H Q q)⟩
theorem PGs.imp {X : Cx} {es : List Expr} {t t' : TGs} (h : L2.PGs X es t) (m : ∀ v σ H Q, t' v σ H Q → t v σ H Q) : L2.PGs X es t' := ⟨fun pins s σ H v u Q I r q => h.run pins s σ H v u Q I r (m v σ H Q q)⟩
theorem asg_ns {e : Expr} (h : nst e = true) (es : List Expr) (env : PySem.Env) : assignEach (e :: es) env = (false, assign e env) :: assignEach es env := by
  cases e <;> first | rfl | cases h
theorem asg_find {env : PySem.Env} : ∀ {es : List Expr}, es.all nst = true → (assignEach es env).findIdx? (·.1) = none
  | [], _ => rfl
  | e :: es, h => by
    obtain ⟨h1, h2⟩ := Bool.and_eq_true_iff.mp (show (nst e && es.all nst) = true from h)
    rw [asg_ns h1, List.findIdx?_cons]
    simp [asg_find h2]
theorem asg_count {env : PySem.Env} : ∀ {es : List Expr}, es.all nst = true → (assignEach es env).length = es.length
  | [], _ => rfl
  | e :: es, h => by
    obtain ⟨h1, h2⟩ := Bool.and_eq_true_iff.mp (show (nst e && es.all nst) = true from h)
    rw [asg_ns h1]
    simp [asg_count h2]
theorem trGs_all {r : Expr → Tg} : ∀ {es : List Expr}, (trGs r es).2 = true → es.all nst = true
  | [], _ => rfl
  | e :: es, h => by
    obtain ⟨h1, h2⟩ := Bool.and_eq_true_iff.mp (show (nst e && (trGs r es).2) = true from h)
    show (nst e && es.all nst) = true
    rw [h1, trGs_all h2] <;> rfl
theorem trGs_len {r : Expr → Tg} : ∀ {es : List Expr}, tgLen (trGs r es).1 = es.length
  | [] => rfl
  | e :: es => by simp [trGs, tgLen, trGs_len (r := r) (es := es)]
section
variable {X : Cx} {C : Ctx} {T : Tc} {n : Nat} {Z : Act}
theorem pg_none {e : Expr} : L2.PG X e (TGx X Z .nil) := ⟨fun _ _ _ _ _ _ _ _ _ ⟨A, ρ, x, ρ', S, R, h, _⟩ => by simp [asgT] at h⟩
theorem pgs_ok {r : Expr → Tg} (hr : ∀ e, L2.PG X e (TGx X Z (r e))) : ∀ es : List Expr, es.all nst = true → L2.PGs X es (tGs X.K Z (trGs r es).1)
  | [], _ => PGs.imp pgs_nil g_nil
  | e :: es, h => by
    obtain ⟨h1, h2⟩ := Bool.and_eq_true_iff.mp (show (nst e && es.all nst) = true from h)
    exact PGs.imp (pgs_cons (hr e) (pgs_ok hr es h2) (by rw [asg_ns h1] <;> rfl)) g_cons
theorem sub_ha {o i : Expr} {pos : Pos} {env : PySem.Env} (h : notSlc i = true) : ∀ v, assign (.Subscript o i pos) env v = (do
      let ov ← holding [v] (eval o env)
      let iv ← holding [v, ov] (eval i env)
      standAt pos
      holding [v, ov, iv] (setItem ov iv v)
      release [v, ov, iv] []) := by
  intro v
  cases i <;> first | rfl | cases h
theorem G_ok (w : Wd X C T n) : ∀ (m : Nat) (e : Expr), L2.PG X e (TGx X Z (trG m T e))
  | 0, e => pg_none
  | m + 1, e => by
    unfold trG
    split
    · split
      · rename_i i h
        obtain ⟨h1, h2, _, hf⟩ := w.lc h
        exact PG.imp (pg_name w.ndN h1 h2 hf) g_name
      · exact pg_none
    · split
      · rename_i h
        have hs := trGs_all h
        exact PG.imp (pg_tup w.calm (pgs_ok (G_ok w m) _ hs) (asg_count hs) (asg_find hs)) (g_tup fun xs ρ ρ' e => by rw [asgTs_len _ _ _ _ e, trGs_len])
      · exact pg_none
    · split
      · rename_i i h
        obtain ⟨h1, h2, h3⟩ := w.vr h
        obtain ⟨d1, d2, _⟩ := okN_d h3
        exact PG.imp (pg_sub (pe_var h1 h2 d1 d2) pe_int set_list (sub_ha rfl)) g_ixL
      · exact pg_none
    · split
      · rename_i i j h h'
        obtain ⟨h1, h2, h3⟩ := w.vr h
        obtain ⟨d1, d2, _⟩ := okN_d h3
        obtain ⟨h1', h2', h3'⟩ := w.vr h'
        obtain ⟨d1', d2', _⟩ := okN_d h3'
        exact PG.imp (pg_sub (pe_var h1 h2 d1 d2) (pe_var h1' h2' d1' d2') set_list (sub_ha rfl)) g_ixV
      · exact pg_none
    · exact pg_none
theorem I_ok (w : Wd X C T n) {r : Expr → Ex} (hr : ∀ e, PE X e (TEx X Z C (r e))) (tg e : Expr) : L2.PI X tg e (tI (gd' X.K) Z W0 (evI C (trI r T tg e))) := by
  unfold trI
  split
  · rename_i g h
    exact (rg_ok w hr h).1 tg
  · have wk : ∀ e, L2.PI X tg e (tI (gd' X.K) Z W0 (evI C (.walk (r e)))) := fun e => MP.PI.imp (pi_walk (hr e)) i_seq
    split
    · split
      · rename_i c
        obtain ⟨rfl, c1, c2⟩ := c
        obtain ⟨g1, g2, g3⟩ := w.bi c1
        exact MP.PI.imp (pi_enum g1 g2 (pa_cons (hr _) pa_nil (star_ns c2 [] X.env)) (star_ns c2 [] X.env)) (i_enum trivial)
      · exact wk _
    · split
      · rename_i c
        obtain ⟨rfl, c1, c2, c3⟩ := c
        obtain ⟨g1, g2, g3⟩ := w.bi c1
        exact MP.PI.imp (RZ.pi_zipA g1 g2 (pa_cons (hr _) (pa_cons (hr _) pa_nil (star_ns c3 [] X.env)) (star_ns c2 _ X.env)) (star_ns c2 _ X.env) (star_any (by show (nst _ && true) = true; rw [c3] <;> rfl))) i_zip
      · exact wk _
    · exact wk _
theorem Wd.blk (w : Wd X C T n) (s : Shared) (H : Hp) (scope : Scope) (c : Addr) (cl : List (Str × Addr)) (fp : List Addr) : Wd (X.blk s H scope (compEnvC scope cl c X.env) fp) C (tcB T scope) n := by
  refine ⟨w.N, w.nd, ?_, w.calm, w.room, w.gu, fun h => (nomatch h), w.free, w.tops, w.csts⟩
  show relabel scope X.env = relB scope T.sc
  rw [← w.sc]
  rfl
/-- the comprehension, under what the smaller expressions do -/
theorem Lc_ok (w : Wd X C T n) {r rt : Tc → Expr → Ex} (hr : ∀ (X : Cx) (T : Tc), Wd X C T n → ∀ e, PE X e (TEx X Z C (r T e))) (hrt : ∀ (X : Cx) (T : Tc), Wd X C T n → ∀ e, PT X e (TTx X Z C (rt T e)))
    (elt : Expr) (gs : List Comprehension) (scope : Scope) : trLc r rt T elt gs scope = .omit ∨ ∃ tg it ifs own c, gs = [⟨tg, it, ifs, 0⟩] ∧ trLc r rt T elt gs scope = .lc (trG 6 (tcB T scope) tg) (trI (r T) T tg it) c (r (tcB T scope) elt) (own.map (·.2)) ∧
      BlkOk X.N X.env.scope scope own ∧ (∀ x, foldedSetIterable it X.env x = pure x) ∧ (∀ i ∈ tgN (trG 6 (tcB T scope) tg), i ∈ own.map (·.2)) ∧
      (∀ (s : Shared) (H : Hp) (a : Addr) (cl : List (Str × Addr)) (fp : List Addr), PTs (X.blk s H scope (compEnvC scope cl a X.env) fp) ifs (TTx X Z C c)) := by
  unfold trLc
  split
  · rename_i tg it ifs
    split
    · rename_i own ho
      split
      · rename_i hc
        obtain ⟨c1, c2⟩ := Bool.and_eq_true_iff.mp hc
        obtain ⟨c2, c3⟩ := Bool.and_eq_true_iff.mp c2
        have hv : ∀ i ∈ tgN (trG 6 (tcB T scope) tg), i ∈ own.map (·.2) := fun i hi => by
          have z := List.all_eq_true.mp c3 i hi
          exact List.contains_iff_mem.mp z
        have bk : BlkOk X.N X.env.scope scope own := by
          rw [w.N, w.sc]
          exact blkOk_by c1
        split
        · exact .inr ⟨tg, it, [], own, .omit, rfl, rfl, bk, fold_ns c2 X.env, hv, fun s H a cl fp => ⟨fun pins s σ H Q I ⟨A, ρ, S, N⟩ => pts_nil.run pins s σ H Q I (by
            simp only [evT] at N
            exact N.ok A H S Ev.refl)⟩⟩
        · rename_i c
          exact .inr ⟨tg, it, [c], own, rt (tcB T scope) c, rfl, rfl, bk, fold_ns c2 X.env, hv, fun s H a cl fp => pts_one (hrt _ _ (w.blk s H scope a cl fp) c)⟩
        · exact .inl rfl
      · exact .inl rfl
    · exact .inl rfl
  · exact .inl rfl
theorem PE_lc (w : Wd X C T n) {r rt : Tc → Expr → Ex} (hr : ∀ (X : Cx) (T : Tc), Wd X C T n → ∀ e, PE X e (TEx X Z C (r T e))) (hrt : ∀ (X : Cx) (T : Tc), Wd X C T n → ∀ e, PT X e (TTx X Z C (rt T e)))
    (elt : Expr) (gs : List Comprehension) (scope : Scope) (pos : Pos) : PE X (.ListComp elt gs scope pos) (TEx X Z C (trLc r rt T elt gs scope)) := by
  rcases Lc_ok w hr hrt elt gs scope with h | ⟨tg, it, ifs, own, c, rfl, h, bk, hs, hv, ht⟩
  · rw [h]; exact pe_omit
  · rw [h]
    exact PE.imp (pe_lc w.calm w.ndN (I_ok w (hr X T w) tg it) bk (fun s H a cl fp => G_ok (Z := Z) (w.blk s H scope a cl fp) 6 tg) ht (fun s H a cl fp => hr _ _ (w.blk s H scope a cl fp) elt) hs) (e_lc hv)
theorem pts_ok {T : Tc} {scope : Scope} (c : Option Expr) (ifs : List Expr) (h : oneIf ifs = some c) {rt : Expr → Ex} {Y : Cx} (hY : ∀ e, PT Y e (TTx X Z C (rt e))) : PTs Y ifs (TTx X Z C (trO rt c)) := by
  match ifs, h with
  | [], h =>
    cases h
    exact ⟨fun pins s σ H Q I ⟨A, ρ, S, N⟩ => pts_nil.run pins s σ H Q I (by
      simp only [trO, evT] at N
      exact N.ok A H S Ev.refl)⟩
  | [e], h =>
    cases h
    exact pts_one (hY e)
theorem Lc2_ok (w : Wd X C T n) {r rt : Tc → Expr → Ex} (hr : ∀ (X : Cx) (T : Tc), Wd X C T n → ∀ e, PE X e (TEx X Z C (r T e))) (hrt : ∀ (X : Cx) (T : Tc), Wd X C T n → ∀ e, PT X e (TTx X Z C (rt T e)))
    (elt tg it tg1 it1 : Expr) (c c1 : Option Expr) (scope : Scope) : trLc2 r rt T elt tg it c tg1 it1 c1 scope = .omit ∨ ∃ own, trLc2 r rt T elt tg it c tg1 it1 c1 scope = .lc2 (trG 6 (tcB T scope) tg) (trI (r T) T tg it) (trO (rt (tcB T scope)) c) (trG 6 (tcB T scope) tg1) (trI (r (tcB T scope)) (tcB T scope) tg1 it1) (trO (rt (tcB T scope)) c1) (r (tcB T scope) elt) (own.map (·.2)) (tgN (trG 6 (tcB T scope) tg1)) ∧
      BlkOk X.N X.env.scope scope own ∧ (∀ x, foldedSetIterable it X.env x = pure x) ∧ (∀ env x, foldedSetIterable it1 env x = pure x) ∧ (∀ i ∈ tgN (trG 6 (tcB T scope) tg), i ∈ own.map (·.2)) ∧ (∀ i ∈ tgN (trG 6 (tcB T scope) tg1), i ∈ own.map (·.2)) := by
  unfold trLc2
  split
  · rename_i own ho
    split
    · rename_i hc
      simp only [Bool.and_eq_true] at hc
      obtain ⟨c1, ⟨c2, c3⟩, c4, c5⟩ := hc
      refine .inr ⟨own, rfl, by rw [w.N, w.sc]; exact blkOk_by c1, fold_ns c2 X.env, fun env => fold_ns c3 env, fun i hi => ?_, fun i hi => ?_⟩
      · exact List.contains_iff_mem.mp (List.all_eq_true.mp c4 i hi)
      · exact List.contains_iff_mem.mp (List.all_eq_true.mp c5 i hi)
    · exact .inl rfl
  · exact .inl rfl
theorem PE_lcs (w : Wd X C T n) {r rt : Tc → Expr → Ex} (hr : ∀ (X : Cx) (T : Tc), Wd X C T n → ∀ e, PE X e (TEx X Z C (r T e))) (hrt : ∀ (X : Cx) (T : Tc), Wd X C T n → ∀ e, PT X e (TTx X Z C (rt T e)))
    (elt : Expr) (gs : List Comprehension) (scope : Scope) (pos : Pos) : PE X (.ListComp elt gs scope pos) (TEx X Z C (trLcs r rt T elt gs scope)) := by
  unfold trLcs
  split
  · rename_i tg it ifs tg1 it1 ifs1
    split
    · rename_i c c1 h1 h2
      rcases Lc2_ok (Z := Z) w hr hrt elt tg it tg1 it1 c c1 scope with h | ⟨own, h, bk, hs, hs1, hv, hv1⟩
      · rw [h]; exact pe_omit
      · rw [h]
        exact PE.imp (pe_lc2 w.calm w.ndN (I_ok w (hr X T w) tg it) bk hv1 (fun s H a cl fp => G_ok (Z := Z) (w.blk s H scope a cl fp) 6 tg) (fun s H a cl fp => pts_ok (T := T) (scope := scope) c ifs h1 (hrt _ _ (w.blk s H scope a cl fp)))
          (fun s H a cl fp => I_ok (w.blk s H scope a cl fp) (hr _ _ (w.blk s H scope a cl fp)) tg1 it1) (fun s H a cl fp => G_ok (Z := Z) (w.blk s H scope a cl fp) 6 tg1) (fun s H a cl fp => pts_ok (T := T) (scope := scope) c1 ifs1 h2 (hrt _ _ (w.blk s H scope a cl fp)))
          (fun s H a cl fp => hr _ _ (w.blk s H scope a cl fp) elt) hs hs1) (e_lc2 hv (fun _ h => h) hv1)
    · exact pe_omit
  · exact PE_lc w hr hrt elt _ scope pos
/-! ### the theorem of expressions -/
theorem pw_andT {X : Cx} {r : Expr → Ex} (hr : ∀ e, PT X e (TTx X Z C (r e))) (p : Pos) : ∀ vs : List Expr, vs ≠ [] → PW X (.BoolOp .And vs p) (TTx X Z C (trAnd r vs))
  | [], h => absurd rfl h
  | [a], _ => pw_and1 (hr a)
  | a :: b :: rest, _ => PW.imp (pw_and (hr a) (pw_andT hr p (b :: rest) (fun h => nomatch h))) t_an
theorem pw_orT {X : Cx} {r : Expr → Ex} (hr : ∀ e, PT X e (TTx X Z C (r e))) (p : Pos) : ∀ vs : List Expr, vs ≠ [] → PW X (.BoolOp .Or vs p) (TTx X Z C (trOr r vs))
  | [], h => absurd rfl h
  | [a], _ => pw_or1 (hr a)
  | a :: b :: rest, _ => PW.imp (pw_or (hr a) (pw_orT hr p (b :: rest) (fun h => nomatch h))) t_or
end
end MP
/-! MS: from the program's statements to the little language. Own work. -/
namespace MP
open PySem
open PySem.Spec
open PyProof.Rows
open L2
/-! ### assignments of tuples -/
def loN (sc : Scope) (ln : Nat) : Expr → Option Str
  | .Name id p => if sc.names.lookup id == some .local && p.line == ln then some id else none
  | _ => none
def isStar : Expr → Bool
  | .Starred .. => true
  | _ => false
def two3 (k : Nat) : Bool := k == 2 || k == 3
def swO (sc : Scope) (ts vs : List Expr) : Option (Option (List Str)) :=
  if (!two3 ts.length || vs.length != ts.length) = true then some none
  else if vs.any isStar = true then some none
  else if ((ts.filterMap (loN sc ((ts.head?.map (·.pos.line)).getD 0))).length != ts.length || (ts.filterMap (loN sc ((ts.head?.map (·.pos.line)).getD 0))).eraseDups.length != (ts.filterMap (loN sc ((ts.head?.map (·.pos.line)).getD 0))).length) = true then some none
  else if vs.all (foldedForSure 8) = true then some none
  else if vs.all (constantsAlone 8) = true then none
  else some (some (ts.filterMap (loN sc ((ts.head?.map (·.pos.line)).getD 0))))
def swP (bk : ScopeKind) (sc : Scope) (ts vs : List Expr) : Sem (Option (List Str)) :=
  if (!(ts.length == 2 || ts.length == 3) || vs.length != ts.length || bk != ScopeKind.function) = true then pure none
  else if vs.any isStar = true then pure none
  else if ((ts.filterMap (loN sc ((ts.head?.map (·.pos.line)).getD 0))).length != ts.length || (ts.filterMap (loN sc ((ts.head?.map (·.pos.line)).getD 0))).eraseDups.length != (ts.filterMap (loN sc ((ts.head?.map (·.pos.line)).getD 0))).length) = true then pure none
  else if vs.all (foldedForSure 8) = true then pure none
  else if vs.all (constantsAlone 8) = true then (do
    unsupported "assign.tuple-of-constant-expressions:order-of-the-stores"
    pure (some (ts.filterMap (loN sc ((ts.head?.map (·.pos.line)).getD 0)))))
  else pure (some (ts.filterMap (loN sc ((ts.head?.map (·.pos.line)).getD 0))))
theorem swP_eq {env : PySem.Env} {ts vs : List Expr} {k k2 : Nat} {p p2 : Pos} : swappedStores [.Tuple ts k p] (.Tuple vs k2 p2) env = swP env.blockKind env.scope ts vs := by
  unfold swappedStores swP
  rfl
theorem swO_ok {env : PySem.Env} (hk : env.scope.kind = .function) {ts vs : List Expr} {r : Option (List Str)} {k k2 : Nat} {p p2 : Pos} (h : swO env.scope ts vs = some r) : swappedStores [.Tuple ts k p] (.Tuple vs k2 p2) env = pure r := by
  have hb : env.blockKind = .function := by unfold Env.blockKind; rw [hk] <;> rfl
  unfold swO at h
  rw [swP_eq, hb]
  unfold swP
  by_cases c1 : (!two3 ts.length || vs.length != ts.length) = true
  · rw [if_pos c1] at h
    cases h
    have c1' : (!(ts.length == 2 || ts.length == 3) || vs.length != ts.length || ScopeKind.function != ScopeKind.function) = true := by
      rw [show (!(ts.length == 2 || ts.length == 3) || vs.length != ts.length) = true from c1] <;> rfl
    rw [if_pos c1']
  · rw [if_neg c1] at h
    have c1' : ¬ (!(ts.length == 2 || ts.length == 3) || vs.length != ts.length || ScopeKind.function != ScopeKind.function) = true := by
      rw [show (!(ts.length == 2 || ts.length == 3) || vs.length != ts.length) = false from Bool.eq_false_iff.mpr c1]
      decide
    rw [if_neg c1']
    by_cases c2 : vs.any isStar = true
    · rw [if_pos c2] at h
      cases h
      rw [if_pos c2]
    · rw [if_neg c2] at h
      rw [if_neg c2]
      by_cases c3 : ((ts.filterMap (loN env.scope ((ts.head?.map (·.pos.line)).getD 0))).length != ts.length || (ts.filterMap (loN env.scope ((ts.head?.map (·.pos.line)).getD 0))).eraseDups.length != (ts.filterMap (loN env.scope ((ts.head?.map (·.pos.line)).getD 0))).length) = true
      · rw [if_pos c3] at h
        cases h
        rw [if_pos c3]
      · rw [if_neg c3] at h
        rw [if_neg c3]
        by_cases c4 : vs.all (foldedForSure 8) = true
        · rw [if_pos c4] at h
          cases h
          rw [if_pos c4]
        · rw [if_neg c4] at h
          rw [if_neg c4]
          by_cases c5 : vs.all (constantsAlone 8) = true
          · rw [if_pos c5] at h
            cases h
          · rw [if_neg c5] at h
            cases h
            rw [if_neg c5]

/-! ### statements -/
def notComp : Expr → Bool
  | .ListComp .. => false
  | .SetComp .. => false
  | .DictComp .. => false
  | _ => true
def isTup : Expr → Bool
  | .Tuple .. => true
  | _ => false
def namesI (T : Tc) : List Expr → Option (List Nat)
  | [] => some []
  | .Name x _ :: r => (lc' T x).bind fun i => (namesI T r).map (i :: ·)
  | _ => none
def lo1 (T : Tc) (x : Str) : Option Nat := if loB (T.sc.names.lookup x) then lc' T x else none
def namesL (T : Tc) : List Expr → Option (List Nat × List Str)
  | [] => some ([], [])
  | .Name x _ :: r => (lo1 T x).bind fun i => (namesL T r).map fun q => (i :: q.1, x :: q.2)
  | _ => none
def swB (T : Tc) (x : Str) (px lp : Pos) (scope : Scope) : Bool := loB (T.sc.names.lookup x) && (px.line == lp.line && !(scope.names.any fun (n, k) => n == x && (k == .local || k == .cell)))
def trTup (r : Expr → Ex) (T : Tc) (ts vs : List Expr) : Cm := match swO T.sc ts vs with
  | none => .none
  | some none => (match namesI T ts with
    | some is => if vs.all nst && (ts.all nst && decide (is.length ≤ 1000)) then .par is (trA r vs) else .none
    | none => if (trGs (trG 5 T) ts).2 then .asg (.tup (trGs (trG 5 T) ts).1) (.tup (trA r vs)) else .none)
  | some (some nm) => (match namesL T ts, vs with
    | some ([i, j], [x, y]), [a, b] => if (i != j && decide (nm = [x, y])) = true then .par [i, j] (trA r [a, b]) else .none
    | some ([i, j, l], [x, y, z]), [a, b, c] => if (i != j && (i != l && (j != l && decide (nm = [x, y, z])))) = true then .par [i, j, l] (trA r [a, b, c]) else .none
    | _, _ => .none)
def trAsg (F : Nat) (T : Tc) (tg e : Expr) : Cm := match tg with
  | .Name x px => (match lc' T x with
    | some i => (match e with
      | .ListComp elt gs scope lp => .asg (.name i) (trLcs (tr F false) (tr F true) T elt gs scope)
      | e => if notComp e then .asg (.name i) (tr F false T e) else .none)
    | none => .none)
  | .Tuple ts _ _ => (match e with
    | .Tuple vs _ _ => trTup (tr F false T) T ts vs
    | e => if (trGs (trG 5 T) ts).2 then .asg (.tup (trGs (trG 5 T) ts).1) (tr F false T e) else .none)
  | .Subscript (.Name x _) s _ => (match vr T x with
    | some i => if notSlc s then .setIx i (tr F false T s) (tr F false T e) else .none
    | none => .none)
  | _ => .none
def trSs (r : Stmt → Cm) : List Stmt → Cm
  | [] => .skip
  | [s] => r s
  | s :: t :: rest => .seq (r s) (trSs r (t :: rest))
def isDoc : Expr → Bool
  | .Constant (.str _) _ _ => true
  | _ => false
def trS : Nat → Nat → Tc → Stmt → Cm
  | 0, _, _, _ => .none
  | n + 1, F, T, st => match st with
    | .Pass _ => .skip
    | .Expr e _ => if isDoc e then .skip else if notComp e then .expr (tr F false T e) else .none
    | .Return none _ => .retN
    | .Return (some e) _ => .ret (tr F false T e)
    | .If c a b _ => .iff (tr F true T c) (trSs (trS n F T) a) (trSs (trS n F T) b)
    | .While c b [] _ => .whl (tr F true T c) (trSs (trS n F T) b)
    | .For tg it b [] _ => if notSet it then .for_ (trG 6 T tg) (trI (tr F false T) T tg it) (trSs (trS n F T) b) else .none
    | .Break _ => .brk
    | .Continue _ => .cnt
    | .Assign [tg] e _ => trAsg F T tg e
    | _ => .none
end MP
/-! MT: the little language's statements say what the program's do. Own work. -/
namespace MP
open PySem
open PySem.Spec
open PyProof.Rows
open L2
section
variable {X : Cx} {C : Ctx} {T : Tc} {n : Nat} {Z : Act}
theorem tr_ok : ∀ (m : Nat) (X : Cx) (T : Tc), Wd X C T n → ∀ e, PE X e (TEx X Z C (tr m false T e)) ∧ PT X e (TTx X Z C (tr m true T e))
  | 0, X, T, w, e => ⟨pe_omit, pt_omit⟩
  | m + 1, X, T, w, e => by
    have ih := tr_ok m
    have hr : ∀ e, PE X e (TEx X Z C (tr m false T e)) := fun e => (ih X T w e).1
    have ht : ∀ e, PT X e (TTx X Z C (tr m true T e)) := fun e => (ih X T w e).2
    have pl : ∀ e, (∀ whole, isTrue e X.env whole = (do let v ← whole; standAt e.pos; holding [v] (truthy v))) → PT X e (TTx X Z C (.tr (tr m false T e))) := fun e he => PT.imp (pt_truth (hr e) he) (t_tr tru_d)
    cases e with
    | Constant c k p => exact ⟨C_ok c k p, pl _ fun _ => rfl⟩
    | Name x p => exact ⟨N_ok w x p, pl _ fun _ => rfl⟩
    | BinOp a op b p =>
      refine ⟨?_, pl _ fun _ => rfl⟩
      show PE X _ (TEx X Z C (match o2b op with
        | some o => .u2 o (tr m false T a) (tr m false T b)
        | none => .omit))
      cases ho : o2b op with
      | none => exact pe_omit
      | some o =>
        obtain ⟨f, h1, h2⟩ := bin_rule (X := X) ho
        exact PE.imp (pe_op h1 (hr a) (hr b)) (e_u2 (G := gd' X.K) h2)
    | UnaryOp op a p =>
      cases op with
      | Not => exact ⟨PE.imp (pe_not (hr a)) (e_u1 (G := gd' X.K) ru_not), PT.imp (pt_not (ht a)) t_nt⟩
      | USub => exact ⟨PE.imp (pe_un un_neg (hr a)) (e_u1 (G := gd' X.K) ru_neg), pt_omit⟩
      | _ => exact ⟨pe_omit, pt_omit⟩
    | Compare a ops bs p => exact Cmp_ok w hr a p ops bs
    | BoolOp op vs p =>
      cases op with
      | And =>
        refine ⟨And_ok hr p vs, ?_⟩
        cases vs with
        | nil => exact pt_omit
        | cons v vs => exact (pw_andT ht p (v :: vs) (fun h => nomatch h)).pt
      | Or =>
        refine ⟨Or_ok hr p vs, ?_⟩
        cases vs with
        | nil => exact pt_omit
        | cons v vs => exact (pw_orT ht p (v :: vs) (fun h => nomatch h)).pt
    | IfExp c a b p => exact ⟨PE.imp (pe_ifExp (ht c) (hr a) (hr b)) e_ite, pt_omit⟩
    | Tuple es k p => exact ⟨PE.imp (pe_tup (pa_ok hr es)) e_tup, pl _ fun _ => rfl⟩
    | List es p => exact ⟨PE.imp (pe_lst (pa_ok hr es)) e_lst, pl _ fun _ => rfl⟩
    | Subscript a s p =>
      refine ⟨?_, pl _ fun _ => rfl⟩
      have pe : notSlc s = true → PE X (.Subscript a s p) (TEx X Z C (.u2 .ix (tr m false T a) (tr m false T s))) := fun h => PE.imp (pe_ix (ix_list.or ix_tup) (hr a) (hr s) (ix_ns h)) (e_u2 (G := gd' X.K) ru_ix)
      cases s with
      | Slice lo hi st q =>
        cases st with
        | none =>
          obtain ⟨tl, l1, l2⟩ := P_ok (Z := Z) hr lo
          obtain ⟨th, h1, h2⟩ := P_ok (Z := Z) hr hi
          exact PE.imp (pe_slice (sl_list.or sl_tupA) (hr a) l1 h1) (e_sl (G := gd' X.K) ru_sl l2 h2)
        | some st =>
          show PE X _ (TEx X Z C (if isM1 st && (lo.isNone && hi.isNone) then .u1 .rev (tr m false T a) else .omit))
          by_cases h : (isM1 st && (lo.isNone && hi.isNone)) = true
          · rw [if_pos h]
            obtain ⟨h1, h2⟩ := Bool.and_eq_true_iff.mp h
            obtain ⟨h2, h3⟩ := Bool.and_eq_true_iff.mp h2
            obtain ⟨k, p1, p2, rfl⟩ : ∃ k p1 p2, st = .UnaryOp .USub (.Constant (.int 1) k p1) p2 := by
              unfold isM1 at h1
              split at h1
              · exact ⟨_, _, _, rfl⟩
              · cases h1
            cases lo with
            | some _ => cases h2
            | none =>
              cases hi with
              | some _ => cases h3
              | none => exact PE.imp (pe_revL (hr a)) (e_u1 (G := gd' X.K) ru_rev)
          · rw [if_neg h]
            exact pe_omit
      | _ => exact pe rfl
    | Call f es ks p => exact ⟨Call_ok w hr f es ks p, pl _ fun _ => rfl⟩
    | ListComp elt gs scope p => exact ⟨PE_lcs w (fun X T w e => (ih X T w e).1) (fun X T w e => (ih X T w e).2) elt gs scope p, pl _ fun _ => rfl⟩
    | _ => exact ⟨pe_omit, pl _ fun _ => rfl⟩

theorem po_ok {r : Expr → Ex} (hr : ∀ e, PE X e (TEx X Z C (r e))) : ∀ es : List Expr, PA X es (tOs (gd' X.K) Z W0 (evO C (trA r es)))
  | [] => MP.PA.imp pa_nil o_nil
  | e :: es => by
    unfold trA
    split
    · rename_i h
      exact MP.PA.imp (pa_cons (hr e) (po_ok hr es) (star_ns h es X.env)) o_cons
    · exact ⟨fun _ _ _ _ _ _ _ ⟨A, ρ, S, N⟩ => by simp only [evO] at N; exact N.elim⟩
abbrev TSx (X : Cx) (Z : Act) (C : Ctx) (c : Cm) : TS := tS (gd' X.K) Z W0 (exC C c)
theorem ps_none {st : Stmt} : PS X st (TSx X Z C .none) := PS.imp ps_never s_none
theorem names_ok (w : Wd X C T n) : ∀ {ts : List Expr} {is : List Nat}, namesI T ts = some is → L2.PGs X ts (gNames is) ∧ ts.length = is.length
  | [], is, h => by
    simp only [namesI] at h
    cases h
    exact ⟨pgs_nil, rfl⟩
  | e :: ts, is, h => by
    cases e with
    | Name x p =>
      simp only [namesI] at h
      obtain ⟨i, h1, h2⟩ := Option.bind_eq_some_iff.mp h
      obtain ⟨js, h3, rfl⟩ := Option.map_eq_some_iff.mp h2
      obtain ⟨k1, k2⟩ := names_ok w h3
      obtain ⟨l1, l2, _, l4⟩ := w.lc h1
      exact ⟨pgs_cons (pg_name w.ndN l1 l2 l4) k1 rfl, congrArg Nat.succ k2⟩
    | _ => simp [namesI] at h
theorem lo1_ok (w : Wd X C T n) {x : Str} {i : Nat} (h : lo1 T x = some i) : X.N[i]? = some x ∧ X.env.scope.names.lookup x = some .local := by
  unfold lo1 at h
  split at h
  · rename_i c
    refine ⟨(w.lc h).1, ?_⟩
    rw [w.sc]
    cases q : T.sc.names.lookup x with
    | none => rw [q] at c; cases c
    | some k => rw [q] at c; cases k <;> first | rfl | cases c
  · cases h
theorem namesL_cons {ts : List Expr} {i : Nat} {is : List Nat} {x : Str} {xs : List Str} (h : namesL T ts = some (i :: is, x :: xs)) : ∃ p r, ts = .Name x p :: r ∧ lo1 T x = some i ∧ namesL T r = some (is, xs) := by
  cases ts with
  | nil => simp [namesL] at h
  | cons e ts =>
    cases e with
    | Name y p =>
      simp only [namesL] at h
      obtain ⟨i1, h1, h⟩ := Option.bind_eq_some_iff.mp h
      obtain ⟨q1, h2, e1⟩ := Option.map_eq_some_iff.mp h
      cases e1
      exact ⟨p, ts, rfl, h1, h2⟩
    | _ => simp [namesL] at h
theorem namesL_nil {ts : List Expr} (h : namesL T ts = some ([], [])) : ts = [] := by
  cases ts with
  | nil => rfl
  | cons e ts =>
    cases e with
    | Name y p =>
      simp only [namesL] at h
      obtain ⟨i1, h1, h⟩ := Option.bind_eq_some_iff.mp h
      obtain ⟨q1, h, e1⟩ := Option.map_eq_some_iff.mp h
      cases e1
    | _ => simp [namesL] at h
theorem sws_tup {ts : List Expr} {k : Nat} {p : Pos} {e : Expr} {l : Nat} {env : PySem.Env} : swapsWithSole [.Tuple ts k p] e l env = pure false := by
  cases e <;> rfl
theorem sws_sub {o s : Expr} {p : Pos} {e : Expr} {l : Nat} {env : PySem.Env} : swapsWithSole [.Subscript o s p] e l env = pure false := by
  cases e <;> rfl
theorem swp_sub {o s : Expr} {p : Pos} {e : Expr} {env : PySem.Env} : swappedStores [.Subscript o s p] e env = pure none := by
  cases e <;> rfl
theorem swp_tup {ts : List Expr} {k : Nat} {p : Pos} {e : Expr} {env : PySem.Env} (h : isTup e = false) : swappedStores [.Tuple ts k p] e env = pure none := by
  cases e <;> first | rfl | cases h
theorem sws_tt {ts vs : List Expr} {k k2 : Nat} {p p2 : Pos} {l : Nat} {env : PySem.Env} : swapsWithSole [.Tuple ts k p] (.Tuple vs k2 p2) l env = pure false := rfl
theorem Tup_ok (w : Wd X C T n) (hk : T.sc.kind = .function) {r : Expr → Ex} (hr : ∀ e, PE X e (TEx X Z C (r e))) (ts vs : List Expr) (k k2 : Nat) (p p2 pos : Pos) : PS X (.Assign [.Tuple ts k p] (.Tuple vs k2 p2) pos) (TSx X Z C (trTup r T ts vs)) := by
  have hk' : X.env.scope.kind = .function := by rw [w.sc]; exact hk
  unfold trTup
  split
  · exact ps_none
  · rename_i hsw
    have hw := swO_ok hk' (k := k) (k2 := k2) (p := p) (p2 := p2) (by rw [w.sc]; exact hsw)
    split
    · rename_i is hn
      split
      · rename_i hc
        obtain ⟨c1, c2⟩ := Bool.and_eq_true_iff.mp hc
        obtain ⟨c2, c3⟩ := Bool.and_eq_true_iff.mp c2
        obtain ⟨k1, k3⟩ := names_ok w hn
        have c3' : is.length ≤ 1000 := of_decide_eq_true c3
        exact PS.imp (ps_asg (pe_tup (po_ok hr vs)) (pg_tup w.calm k1 (asg_count c2) (asg_find c2)) sws_tt hw rfl) fun D σ H q => by
          have z := s_parT D σ H q c3'
          rw [← k3] at z
          exact z
      · exact ps_none
    · split
      · rename_i h
        have hs := trGs_all h
        have g : L2.PG X (.Tuple ts k p) (TGx X Z (.tup (trGs (trG 5 T) ts).1)) := PG.imp (pg_tup w.calm (pgs_ok (G_ok w 5) _ hs) (asg_count hs) (asg_find hs)) (g_tup fun xs ρ ρ' e => by rw [asgTs_len _ _ _ _ e, trGs_len])
        exact PS.imp (ps_asg (PE.imp (pe_tup (pa_ok hr vs)) e_tup) g sws_tt hw rfl) (s_asgT fun i h => nomatch h)
      · exact ps_none
  · rename_i nm hsw
    have hw := swO_ok hk' (k := k) (k2 := k2) (p := p) (p2 := p2) (by rw [w.sc]; exact hsw)
    split
    · rename_i i j x y a b hn
      split
      · rename_i hc
        simp only [Bool.and_eq_true, bne_iff_ne, ne_eq, decide_eq_true_eq] at hc
        obtain ⟨c1, c2⟩ := hc
        obtain ⟨p1, r1, rfl, h1, hn⟩ := namesL_cons hn
        obtain ⟨p3, r2, rfl, h2, hn⟩ := namesL_cons hn
        cases namesL_nil hn
        obtain ⟨l1, l2⟩ := lo1_ok w h1
        obtain ⟨l3, l4⟩ := lo1_ok w h2
        rw [c2] at hw
        exact PS.imp (ps_par w.calm w.ndN l1 l3 c1 l2 l4 (po_ok hr [a, b]) hw rfl) s_par2
      · exact ps_none
    · rename_i i j l x y z a b c hn
      split
      · rename_i hc
        simp only [Bool.and_eq_true, bne_iff_ne, ne_eq, decide_eq_true_eq] at hc
        obtain ⟨c1, c2, c3, c4⟩ := hc
        obtain ⟨p1, r1, rfl, h1, hn⟩ := namesL_cons hn
        obtain ⟨p3, r2, rfl, h2, hn⟩ := namesL_cons hn
        obtain ⟨p4, r3, rfl, h3, hn⟩ := namesL_cons hn
        cases namesL_nil hn
        obtain ⟨l1, l2⟩ := lo1_ok w h1
        obtain ⟨l3, l4⟩ := lo1_ok w h2
        obtain ⟨l5, l6⟩ := lo1_ok w h3
        rw [c4] at hw
        exact PS.imp (ps_par3 w.calm w.ndN l1 l3 l5 c1 c2 c3 l2 l4 l6 (po_ok hr [a, b, c]) hw rfl) s_par3
      · exact ps_none
    · exact ps_none

theorem sw_lc {elt : Expr} {gs : List Comprehension} {scope : Scope} {pos py : Pos} {y : Str} {l : Nat} {env : PySem.Env} : swapsWith (.ListComp elt gs scope pos) (some (.Name y py)) l env =
    pure (env.blockKind == .function && env.kindOf y == some .local && py.line == pos.line && !(scope.names.any fun (n, k) => n == y && (k == .local || k == .cell))) := rfl
theorem sw_other {e : Expr} {t : Option Expr} {l : Nat} {env : PySem.Env} (h : notComp e = true) : swapsWith e t l env = pure false := by
  cases e <;> first | rfl | cases h
theorem Lc_asg (w : Wd X C T n) (F : Nat) {x : Str} {i : Nat} (l1 : X.N[i]? = some x) (l2 : Loc X.env.scope x) (l4 : X.fn x = true ∨ X.env.scope.names.lookup x = some .local) (elt : Expr) (gs : List Comprehension) (scope : Scope) (lp px pos : Pos) :
    PS X (.Assign [.Name x px] (.ListComp elt gs scope lp) pos) (TSx X Z C (.asg (.name i) (trLc (tr F false) (tr F true) T elt gs scope))) := by
  rcases Lc_ok (Z := Z) w (fun X T w e => (tr_ok F X T w e).1) (fun X T w e => (tr_ok F X T w e).2) elt gs scope with h | ⟨tg, it, ifs, own, c, rfl, h, bk, hs, hv, ht⟩
  · rw [h]
    exact ⟨fun pins s σ H D I q => by
      obtain ⟨A, ρ, S, N⟩ := s_asgN D σ H q
      simp only [evE] at N
      exact N.elim⟩
  · rw [h]
    cases hsw : (X.env.blockKind == .function && X.env.kindOf x == some .local && px.line == lp.line && !(scope.names.any fun (n, k) => n == x && (k == .local || k == .cell))) with
    | true =>
      have hyl : X.env.scope.names.lookup x = some .local := by
        simp only [Bool.and_eq_true] at hsw
        exact eq_of_beq hsw.1.1.2
      exact PS.imp (ps_setLc w.calm w.ndN l1 hyl (by rw [sw_lc, hsw]) (I_ok w (fun e => (tr_ok F X T w e).1) tg it) bk (fun s H a cl fp => G_ok (Z := Z) (w.blk s H scope a cl fp) 6 tg) ht (fun s H a cl fp => (tr_ok F _ _ (w.blk s H scope a cl fp) elt).1) hs) fun D σ H q => e_lc hv σ H _ (s_asgN D σ H q)
    | false =>
      exact PS.imp (ps_set w.ndN l1 l2 (PE.imp (pe_lc w.calm w.ndN (I_ok w (fun e => (tr_ok F X T w e).1) tg it) bk (fun s H a cl fp => G_ok (Z := Z) (w.blk s H scope a cl fp) 6 tg) ht (fun s H a cl fp => (tr_ok F _ _ (w.blk s H scope a cl fp) elt).1) hs) (e_lc hv)) (by rw [sw_lc, hsw]) l4) s_asgN
theorem Lcs_asg (w : Wd X C T n) (F : Nat) {x : Str} {i : Nat} (l1 : X.N[i]? = some x) (l2 : Loc X.env.scope x) (l4 : X.fn x = true ∨ X.env.scope.names.lookup x = some .local) (elt : Expr) (gs : List Comprehension) (scope : Scope) (lp px pos : Pos) :
    PS X (.Assign [.Name x px] (.ListComp elt gs scope lp) pos) (TSx X Z C (.asg (.name i) (trLcs (tr F false) (tr F true) T elt gs scope))) := by
  have om : PS X (.Assign [.Name x px] (.ListComp elt gs scope lp) pos) (TSx X Z C (.asg (.name i) .omit)) := ⟨fun pins s σ H D I q => by
    obtain ⟨A, ρ, S, N⟩ := s_asgN D σ H q
    simp only [evE] at N
    exact N.elim⟩
  unfold trLcs
  split
  · rename_i tg it ifs tg1 it1 ifs1
    split
    · rename_i c c1 h1 h2
      rcases Lc2_ok (Z := Z) w (fun X T w e => (tr_ok F X T w e).1) (fun X T w e => (tr_ok F X T w e).2) elt tg it tg1 it1 c c1 scope with h | ⟨own, h, bk, hs, hs1, hv, hv1⟩
      · rw [h]; exact om
      · rw [h]
        have hr : ∀ e, PE X e (TEx X Z C (tr F false T e)) := fun e => (tr_ok F X T w e).1
        cases hsw : (X.env.blockKind == .function && X.env.kindOf x == some .local && px.line == lp.line && !(scope.names.any fun (n, k) => n == x && (k == .local || k == .cell))) with
        | true =>
          have hyl : X.env.scope.names.lookup x = some .local := by
            simp only [Bool.and_eq_true] at hsw
            exact eq_of_beq hsw.1.1.2
          exact PS.imp (ps_setLc2 w.calm w.ndN l1 hyl (by rw [sw_lc, hsw]) (I_ok w hr tg it) bk hv1 (fun s H a cl fp => G_ok (Z := Z) (w.blk s H scope a cl fp) 6 tg) (fun s H a cl fp => pts_ok (T := T) (scope := scope) c ifs h1 fun e => (tr_ok F _ _ (w.blk s H scope a cl fp) e).2)
            (fun s H a cl fp => I_ok (w.blk s H scope a cl fp) (fun e => (tr_ok F _ _ (w.blk s H scope a cl fp) e).1) tg1 it1) (fun s H a cl fp => G_ok (Z := Z) (w.blk s H scope a cl fp) 6 tg1) (fun s H a cl fp => pts_ok (T := T) (scope := scope) c1 ifs1 h2 fun e => (tr_ok F _ _ (w.blk s H scope a cl fp) e).2)
            (fun s H a cl fp => (tr_ok F _ _ (w.blk s H scope a cl fp) elt).1) hs hs1) fun D σ H q => e_lc2 hv (fun _ h => h) hv1 σ H _ (s_asgN D σ H q)
        | false =>
          have pe := PE_lcs (Z := Z) w (fun X T w e => (tr_ok F X T w e).1) (fun X T w e => (tr_ok F X T w e).2) elt [⟨tg, it, ifs, 0⟩, ⟨tg1, it1, ifs1, 0⟩] scope lp
          have e0 : trLcs (tr F false) (tr F true) T elt [⟨tg, it, ifs, 0⟩, ⟨tg1, it1, ifs1, 0⟩] scope = trLc2 (tr F false) (tr F true) T elt tg it c tg1 it1 c1 scope := by simp only [trLcs, h1, h2]
          rw [e0, h] at pe
          exact PS.imp (ps_set w.ndN l1 l2 pe (by rw [sw_lc, hsw]) l4) s_asgN
    · exact om
  · exact Lc_asg w F l1 l2 l4 elt _ scope lp px pos
theorem Asg_ok (w : Wd X C T n) (hk : T.sc.kind = .function) (F : Nat) (tg e : Expr) (pos : Pos) : PS X (.Assign [tg] e pos) (TSx X Z C (trAsg F T tg e)) := by
  have hr : ∀ e, PE X e (TEx X Z C (tr F false T e)) := fun e => (tr_ok F X T w e).1
  have hk' : X.env.scope.kind = .function := by rw [w.sc]; exact hk
  unfold trAsg
  split
  · rename_i x px
    split
    · rename_i i hi
      obtain ⟨l1, l2, l3, l4⟩ := w.lc hi
      split
      · rename_i elt gs scope lp
        exact Lcs_asg w F l1 l2 l4 elt gs scope lp px pos
      · split
        · rename_i hc
          exact PS.imp (ps_set w.ndN l1 l2 (hr e) (sw_other hc) l4) s_asgN
        · exact ps_none
    · exact ps_none
  · rename_i ts k p
    split
    · exact Tup_ok w hk hr _ _ _ _ _ _ _
    · rename_i hne
      split
      · rename_i h
        have hs := trGs_all h
        have g : L2.PG X (.Tuple ts k p) (TGx X Z (.tup (trGs (trG 5 T) ts).1)) := PG.imp (pg_tup w.calm (pgs_ok (G_ok w 5) _ hs) (asg_count hs) (asg_find hs)) (g_tup fun xs ρ ρ' e => by rw [asgTs_len _ _ _ _ e, trGs_len])
        have ht : isTup e = false := by
          cases e with
          | Tuple a b c => exact (hne a b c rfl).elim
          | _ => rfl
        exact PS.imp (ps_asg (hr e) g sws_tup (swp_tup ht) rfl) (s_asgT fun i h => nomatch h)
      · exact ps_none
  · rename_i x px s p
    split
    · rename_i i hi
      obtain ⟨l1, l2, l3⟩ := w.vr hi
      obtain ⟨d1, d2, _⟩ := okN_d l3
      split
      · rename_i hs
        exact PS.imp (ps_asg (hr e) (pg_sub (pe_var l1 l2 d1 d2) (hr s) set_list (sub_ha hs)) sws_sub swp_sub rfl) s_setIx
      · exact ps_none
    · exact ps_none
  · exact ps_none
theorem Ss_ok {r : Stmt → Cm} (hr : ∀ st, PS X st (TSx X Z C (r st))) : ∀ sts : List Stmt, PSs X sts (TSx X Z C (trSs r sts))
  | [] => PSs.imp pss_nil s_skip
  | [s] => pss_one (hr s)
  | s :: t :: rest => PSs.imp (pss_cons (hr s) (Ss_ok hr (t :: rest))) s_seq
theorem S_ok (w : Wd X C T n) (hk : T.sc.kind = .function) (hp : PassesOwn (model X.prog X.w) X.A X.env X.xe) (F : Nat) : ∀ (m : Nat) (st : Stmt), PS X st (TSx X Z C (trS m F T st))
  | 0, st => ps_none
  | m + 1, st => by
    have hr : ∀ e, PE X e (TEx X Z C (tr F false T e)) := fun e => (tr_ok F X T w e).1
    have ht : ∀ e, PT X e (TTx X Z C (tr F true T e)) := fun e => (tr_ok F X T w e).2
    have ss := fun sts => Ss_ok (Z := Z) (S_ok w hk hp F m) sts
    unfold trS
    split
    · exact PS.imp ps_pass s_skip
    · rename_i e p
      split
      · rename_i hd
        cases e with
        | Constant c k q =>
          cases c with
          | str s => exact PS.imp ps_doc s_skip
          | _ => cases hd
        | _ => cases hd
      · split
        · rename_i hc
          exact PS.imp (ps_expr (hr e) (sw_other hc)) s_expr
        · exact ps_none
    · exact PS.imp ps_retN s_retN
    · exact PS.imp (ps_ret (hr _)) s_ret
    · exact PS.imp (ps_if (ht _) (ss _) (ss _)) s_iff
    · exact PS.imp (ps_while hp (ht _) (ss _)) s_whl
    · split
      · rename_i hs
        exact PS.imp (ps_for hp w.calm (I_ok w hr _ _) (G_ok w 6 _) (ss _) (fold_ns hs X.env)) s_for
      · exact ps_none
    · exact PS.imp ps_break s_brk
    · exact PS.imp ps_continue s_cnt
    · exact Asg_ok w hk F _ _ _
    · exact ps_none
end
end MP
/-! MU: a program of defs; its law. Own work. -/
namespace MP
open PySem
open PySem.Spec
open PyProof.Rows
open L2
structure DefI where
  x : Str
  st : Stmt
  N : List Str
  ps : List Str
  io : List Bool
  body : Cm
structure Info where
  defs : List DefI
  csts : List (Str × MP.D)
  free : List Str
  kw : List ((Nat × Nat × List Str) × List Nat)
  wf : Nat
def DefI.fd (d : DefI) : Fd := ⟨d.io, d.ps.length, d.N.length, d.body⟩
def numb {α : Type} : Nat → List α → List (α × Nat)
  | _, [] => []
  | i, x :: xs => (x, i) :: numb (i + 1) xs
def Info.pg (I : Info) : Pg := ⟨I.defs.map DefI.fd, I.csts.map (·.2), I.wf⟩
def Info.tc (I : Info) (sc : Scope) (N : List Str) : Tc := ⟨sc, false, N, numb 0 (I.defs.map (·.x)), numb 0 (I.csts.map (·.1)), I.free, I.kw⟩
theorem numb_get {x : Str} : ∀ {l : List Str} {k i : Nat}, (numb k l).lookup x = some i → ∃ j, i = k + j ∧ l[j]? = some x
  | [], k, i, h => by simp [numb] at h
  | y :: l, k, i, h => by
    simp only [numb, List.lookup_cons] at h
    split at h
    · rename_i e
      cases h
      exact ⟨0, rfl, by simp [(beq_iff_eq.mp e)]⟩
    · obtain ⟨j, rfl, h2⟩ := numb_get h
      exact ⟨j + 1, by omega, by simpa using h2⟩
theorem lookup_mem {α β : Type} [BEq α] [LawfulBEq α] {k : α} {v : β} : ∀ {l : List (α × β)}, l.lookup k = some v → (k, v) ∈ l
  | [], h => by simp at h
  | (a, b) :: l, h => by
    simp only [List.lookup_cons] at h
    split at h
    · rename_i e
      cases h
      rw [beq_iff_eq.mp e]
      exact List.mem_cons_self
    · exact List.mem_cons_of_mem _ (lookup_mem h)
/-- what is checked of a def -/
structure DefI.Ok (I : Info) (d : DefI) : Prop where
  sc : FnScope d.N d.ps (defScope d.st)
  le : d.ps.length ≤ d.N.length
  body : d.body = trSs (trS 30 40 (I.tc (defScope d.st) d.N)) (defBody d.st)
  bind : ∀ (kV doc pm : Value) (an : Option Addr) (cdv ct : Value) (us : List Value), us.length = d.ps.length → bindArgs (PySem.W.fnOf d.x d.x (defArgs d.st) (defBody d.st) (defScope d.st) .none kV doc pm an cdv ct) ⟨us, []⟩ = pure (d.ps.zip us)
/-- .. of a call by keywords -/
def KwOk (I : Info) (e : (Nat × Nat × List Str) × List Nat) : Prop := ∀ d, I.defs[e.1.1]? = some d → ∀ (kV doc pmv : Value) (an : Option Addr) (cdv ct : Value) (us ws : List Value), us.length = e.1.2.1 → ws.length = e.1.2.2.length →
    bindArgs (PySem.W.fnOf d.x d.x (defArgs d.st) (defBody d.st) (defScope d.st) .none kV doc pmv an cdv ct) ⟨us, e.1.2.2.zip ws⟩ = pure (d.ps.zip (e.2.map fun j => (us ++ ws).getD j .none))
theorem FunD.kbp {K : PySem.W.Frag} {x qual : Str} {params : Arguments} {body : List Stmt} {scope : Scope} {kws : List (Str × V)} {f : Addr} {fd : FuncData} {ps ns : List Str} {m : Nat} {pm : List Nat} (F : FunD K x qual params body scope [] kws f fd)
    (h : ∀ (kV doc pmv : Value) (an : Option Addr) (cdv ct : Value) (us ws : List Value), us.length = m → ws.length = ns.length → bindArgs (PySem.W.fnOf x qual params body scope .none kV doc pmv an cdv ct) ⟨us, ns.zip ws⟩ = pure (ps.zip (pm.map fun j => (us ++ ws).getD j .none))) : KBP K fd ps m ns pm := by
  obtain ⟨oc, od, dV, kV, doc, pm', an, cdv, ct, osl, rfl, lk, hcd, hD, hK⟩ := F.ex
  rcases hD with ⟨_, rfl⟩ | ⟨e, _⟩
  · exact fun s us ws _ l1 l2 => .of_eq (h kV doc pm' an cdv ct us ws l1 l2)
  · exact absurd rfl e
/-- what the head tells -/
structure Told (I : Info) (K : PySem.W.Frag) (mg : Str → Option Value) : Prop where
  defs : ∀ d ∈ I.defs, (∃ fd, FunD K d.x d.x (defArgs d.st) (defBody d.st) (defScope d.st) [] [] (He.ga K d.x) fd) ∧ mg d.x = some (.ref (He.ga K d.x))
  free : ∀ x ∈ I.free, mg x = none
  csts : ∀ (k : Nat) (x : Str) (d : MP.D), I.csts[k]? = some (x, d) → ∃ u v, mg x = some u ∧ RelV v u ∧ ∀ A H, RepA K A H v d
theorem all_defs {I : Info} {P : Program} {w : World} {K : PySem.W.Frag} {mg : Str → Option Value} {base : Heap} (ok : ∀ d ∈ I.defs, d.Ok I) (kwo : ∀ e ∈ I.kw, KwOk I e) (T : Told I K mg) :
    ∀ (n k : Nat) (d : DefI), I.defs[k]? = some d → ∀ fd, FunD K d.x d.x (defArgs d.st) (defBody d.st) (defScope d.st) [] [] (He.ga K d.x) fd → FnG P w K mg base n (He.ga K d.x) fd d.ps (spF K (I.pg.sem n k))
  | 0, k, d, hd, fd, F => ⟨fun vs H Q ⟨_, _, _, _, h⟩ => h.elim, fun _ _ _ _ _ _ _ _ _ _ _ _ _ ⟨_, _, _, _, h⟩ => h.elim⟩
  | n + 1, k, d, hd, fd, F => by
    have o := ok d (List.mem_of_getElem? hd)
    have ih := all_defs (P := P) (w := w) (base := base) ok kwo T n
    have es : I.pg.sem (n + 1) k = runF (I.pg.ctx (I.pg.sem n)) d.fd := by
      funext as
      show (match (I.defs.map DefI.fd)[k]? with
        | some F => runF (I.pg.ctx (I.pg.sem n)) F as
        | none => .st) = _
      rw [List.getElem?_map, hd]
      rfl
    rw [es]
    refine fnG_of F o.sc (fun vs H Q ⟨A, as, h1, h2, h3⟩ => ?_) fun cdv B out st H vs Q room gu prom => ?_
    · rw [h1.len]
      unfold runF at h3
      by_cases c : (alB d.fd.io as && as.length == d.fd.np) = true
      · exact of_decide_eq_true (Bool.and_eq_true_iff.mp c).2
      · rw [if_neg c] at h3
        exact h3.elim
    · have wd : Wd (cxOf CXN P w K mg base d.N d.x (defScope d.st) (He.ga K d.x) cdv B out st H EN) (I.pg.ctx (I.pg.sem n)) (I.tc (defScope d.st) d.N) n := by
        refine ⟨rfl, o.sc.nd, rfl, rfl, room, gu, fun _ _ => rfl, fun x hx => T.free x (List.contains_iff_mem.mp hx), fun x j hj => ?_, fun x g hg => ?_⟩
        · obtain ⟨i, e, h2⟩ := numb_get hj
          have e' : j = i := by omega
          subst e'
          rw [List.getElem?_map, Option.map_eq_some_iff] at h2
          obtain ⟨d2, h3, rfl⟩ := h2
          obtain ⟨⟨fd2, F2⟩, m2⟩ := T.defs d2 (List.mem_of_getElem? h3)
          have o2 := ok d2 (List.mem_of_getElem? h3)
          exact ⟨_, fd2, d2.ps, ih j d2 h3 fd2 F2, m2, F2.kp, F2.bindsN o2.bind, fun m ns pm h => FunD.kbp F2 (kwo ((j, m, ns), pm) (lookup_mem h) d2 h3)⟩
        · obtain ⟨i, e, h2⟩ := numb_get hg
          have e' : g = i := by omega
          subst e'
          rw [List.getElem?_map, Option.map_eq_some_iff] at h2
          obtain ⟨⟨x2, d2⟩, h3, rfl⟩ := h2
          obtain ⟨u, v, h4, h5, h6⟩ := T.csts g x2 d2 h3
          refine ⟨u, v, h4, h5, fun A H => ?_⟩
          have e3 : (I.pg.ctx (I.pg.sem n)).cst g = d2 := by
            show (I.csts.map (·.2)).getD g .non = d2
            rw [List.getD_eq_getElem?_getD, List.getElem?_map, h3]
            rfl
          rw [e3]
          exact h6 A H
      refine spF_run (G := gd' K) (F := d.fd) rfl o.le (fun Z => ?_) prom
      show PSs _ (defBody d.st) (tS (gd' K) Z W0' (exC (I.pg.ctx (I.pg.sem n)) d.body))
      rw [o.body]
      exact Ss_ok (S_ok wd o.sc.kind PassesOwn.leaving 40 30) _
/-! ### the law -/
theorem end_go {P : Program} {w : World} {K : PySem.W.Frag} {mg mb : Str → Option Value} {k : Nat} {fa a : Addr} {fd : FuncData} {x : Str} {sp : SpN} {t : Shared} {vs : List Value} {ns : List Int}
    (inK : K.In t.heap) (hns : t.heap.Ns mainGlobals mg) (hb : t.heap.Ns builtinsNs mb) (hbb : ∀ x : Str, x ≠ "__name__" → mb x = bootBuiltins x) (nl : t.heap.NoLimit) (hg : t.gens = #[])
    (ha : t.heap.get? a = some { cls := .type "list", data := .seq vs.toArray }) (hi : IntsAre vs ns) (hl : ns.length ≤ sizeLine) (room : Room k callerA)
    (F : ∀ base : Heap, K.In base → base.Ns mainGlobals mg → FnG P w K mg base k fa fd [x] sp) (hbind : ∀ (s : Shared) (u : Value), BindsTo s fd ⟨[u], []⟩ [(x, u)])
    (hsp : ∀ H : Hp, SqL K H a (ns.map V.int) → sp [.ref a] H (fun v _ => v = .bl true)) :
    codeAny (model P w) callerA (.call (.ref fa) ⟨[.ref a], []⟩) (fun r s' => r = .ok (.ret (.bool true)) ∧ OldK t.heap s'.heap ∧ s'.os = t.os ∧ AllBare s'.gens) t := by
  have rv := vals_ints hi
  have lv := hi.length
  have core : ∀ H : Hp, (∀ b, H b = none ∨ ∃ o xs, H b = some (.frz o (.lst xs))) → SqL K H a (ns.map V.int) → HOk P w H t.heap → (∀ b, H b ≠ none → b = a) → (H a ≠ none → K.lookup a = none) →
      codeAny (model P w) callerA (.call (.ref fa) ⟨[.ref a], []⟩) (fun r s' => r = .ok (.ret (.bool true)) ∧ OldK t.heap s'.heap ∧ s'.os = t.os ∧ AllBare s'.gens) t := by
    intro H only hS hok one nK
    have nd : ∀ {b : Addr} {o : Obj} {es : Array DictEntry} {ep : Nat}, t.heap.get? b = some o → o.data = .dict es ep → H b = none := fun {b o es ep} e d => by
      cases q : H b with
      | none => rfl
      | some u =>
        obtain rfl : b = a := one b (by rw [q]; exact fun z => nomatch z)
        rw [ha] at e
        cases e
        exact nomatch (show Data.seq vs.toArray _ = Data.dict es ep from d)
    have ns' : ∀ {b : Addr} {m : Str → Option Value}, t.heap.Ns b m → (hidT t.heap H).Ns b m := fun {b m} ⟨o, es, ep, e, d, r⟩ => ⟨o, es, ep, hidT_get e (nd e d), d, r⟩
    have inB : K.In (hidT t.heap H) := fun b o e => hidT_get (inK b o e) (by
      cases q : H b with
      | none => rfl
      | some u =>
        obtain rfl : b = a := one b (by rw [q]; exact fun z => nomatch z)
        rw [nK (by rw [q]; exact fun z => nomatch z)] at e
        cases e)
    obtain ⟨mc, n1, n2⟩ := nl
    have en : Env0 P w K mg (hidT t.heap H) callerA [] t H :=
      ⟨rfl, ⟨inB, ns' hns, ⟨mb, ns' hb, hbb⟩, ⟨mc, ns' n1, n2⟩⟩, fun b o e => of_hidT e, Nat.le_of_eq (hidT_size _ _), trivial, fun b h => (nomatch h), hok, .of_eq hg⟩
    refine codeAny_mono ((F _ inB (ns' hns)).does callerA [] t H ⟨[.ref a], []⟩ [.ref a] [.ref a] _ room rfl en (hbind t (.ref a)) (.cons rfl .nil) (hsp H hS)) fun r s' h => ?_
    cases r with
    | error e => exact False.elim h
    | ok fl =>
      cases fl with
      | ret u =>
        obtain ⟨v, H', os, bare, un, hok', rel, q⟩ := h
        have q' : v = .bl true := q
        subst q'
        obtain rfl : u = Value.bool true := rel
        refine ⟨rfl, OldK.of_keep fun b o e => ?_, os, bare⟩
        rcases only b with z | ⟨ob, xs, z⟩
        · exact un.keep b o e z (fun y => nomatch (show b ∈ ([] : List Addr) from y)) (by simp)
        · obtain ⟨e1, _⟩ := hok b _ z
          obtain ⟨e2, _⟩ := hok' b _ (un.frzs b ob _ z)
          rw [e] at e1
          cases e1
          exact e2
      | _ => exact False.elim h
  cases lk : K.lookup a with
  | some o =>
    have e := inK a o lk
    rw [ha] at e
    cases e
    exact core (fun _ => none) (fun _ => .inl rfl) (.inr ⟨_, vs.toArray, _, lk, rfl, rfl, rfl, by rw [List.size_toArray, lv]; exact hl, by simpa using rv⟩) (fun b u z => nomatch (show (none : Option HO) = some u from z)) (fun b z => absurd rfl z) fun z => absurd rfl z
  | none =>
    refine core (fun b => if b = a then some (.frz { cls := .type "list", data := .seq vs.toArray } (.lst (ns.map V.int))) else none) (fun b => ?_) (.inl (.inr ⟨{ cls := .type "list", data := .seq vs.toArray }, if_pos rfl⟩)) (fun b u z => ?_) (fun b z => ?_) fun _ => lk
    · by_cases e : b = a
      · exact .inr ⟨_, _, if_pos e⟩
      · exact .inl (if_neg e)
    · by_cases e : b = a
      · subst e
        cases (if_pos rfl).symm.trans z
        exact ⟨ha, by rw [List.length_map]; exact hl, vs, _, rv, ha⟩
      · cases (if_neg e).symm.trans z
    · by_cases e : b = a
      · exact e
      · exact absurd (if_neg e) z
theorem rep_ints {K : PySem.W.Frag} {A : Ow} {H : Hp} : ∀ ns : List Int, RepAs K A H (ns.map V.int) (ns.map MP.D.int)
  | [] => .nil
  | n :: ns => .cons (.int n) (rep_ints ns)
/-- THE END: the pure reading of the law answers True -/
theorem law_end {l : PySem.W.OpenLaw} {n k m : Nat} {q : Program} {loose : List Str} {d : DefRec} {I : Info} {dl : DefI} {fa : List He.Fa} {fn : List He.DefD}
    (hn : l.most = some n) (hn2 : n ≤ sizeLine) (hdf : d.params.defaults = []) (room : Room k callerA) (hx : d.name = dl.x) (hd : I.defs[m]? = some dl) (hps : ∃ x, dl.ps = [x])
    (ok : ∀ d ∈ I.defs, d.Ok I) (kwo : ∀ e ∈ I.kw, KwOk I e) (told : ∀ (K : PySem.W.Frag) (h : Heap) (mg : Str → Option Value), K.In h → h.Ns mainGlobals mg → He.SaysD fa fn K → Told I K mg)
    (pure_law : ∀ ns : List Int, ns.length ≤ n → I.pg.sem k m [.d (.fz (ns.map .int))] = .ok (.d (.bl true), [])) :
    PySem.W.WalkO q loose (PySem.W.XL q []) (He.hookD 4 fa fn).says l.row.toRowW d [] (fun f vs => PySem.call f vs) := by
  refine Att.attach_call hn hdf fun w s₀ s₁ mg mb fa o pm cd doc a vs ns G Y ho hd2 hcd hmg hobj hints hlen hg => ?_
  obtain ⟨K, inK, says⟩ := Y
  have T := told K _ mg inK G.T.g says
  obtain ⟨⟨fd, F⟩, m2⟩ := T.defs dl (List.mem_of_getElem? hd)
  rw [hx, m2] at hmg
  cases hmg
  obtain ⟨x, hx2⟩ := hps
  have hb : ∀ (s : Shared) (u : Value), BindsTo s fd ⟨[u], []⟩ [(x, u)] := fun s u => by
    have z := F.bindsA (ok dl (List.mem_of_getElem? hd)).bind s [u] (by rw [hx2] <;> rfl)
    rw [hx2] at z
    exact z
  refine end_go (sp := spF K (I.pg.sem k m)) inK G.T.g G.T.b G.T.builtins G.T.nolimit hg hobj hints (Nat.le_trans hlen hn2) room (fun base _ _ => ?_) hb fun H hS => ?_
  · have z := all_defs (P := l.prog) (w := w) (base := base) ok kwo T k m dl hd fd F
    rw [hx2] at z
    exact z
  · refine ⟨fun _ => False, [.d (.fz (ns.map .int))], ⟨?_, trivial⟩, fun _ h => h.elim, ?_⟩
    · exact .fz (hS.elim (fun h => .inl ⟨h, fun z => z⟩) .inr) (rep_ints ns)
    · rw [pure_law ns hlen]
      intro v A' H' _ r _
      have r' : RepA K A' H' v (.bl true) := r
      cases r'
      rfl

def DefI.dd (d : DefI) : He.DefD := ⟨(d.x, none), d.x, d.x, defArgs d.st, defBody d.st, defScope d.st, [], []⟩
def Info.fn (I : Info) : List He.DefD := I.defs.map DefI.dd
def intF (c : Str × MP.D) : He.Fa := match c.2 with
  | .int i => .int c.1 i
  | _ => .glo c.1
def Info.fa (I : Info) : List He.Fa := I.defs.map (fun d => He.Fa.glo d.x) ++ (I.free.map He.Fa.free ++ I.csts.map intF)
def isInt : MP.D → Bool
  | .int _ => true
  | _ => false
theorem told_of {I : Info} (hc : (I.csts.all fun c => isInt c.2) = true) (K : PySem.W.Frag) (h : Heap) (mg : Str → Option Value) (inK : K.In h) (G : h.Ns mainGlobals mg) (c : He.SaysD I.fa I.fn K) : Told I K mg := by
  have fact : ∀ f ∈ I.fa, f.ok K = true := fun f hf => by
    obtain ⟨i, hi⟩ := List.getElem?_of_mem hf
    exact c.fact i hi
  refine ⟨fun d hd => ⟨?_, He.glo_ok inK G (fact _ (List.mem_append_left _ (List.mem_map_of_mem hd)))⟩, fun x hx => He.free_ok inK G (fact _ (List.mem_append_right _ (List.mem_append_left _ (List.mem_map_of_mem hx)))), fun k x d hk => ?_⟩
  · obtain ⟨i, hi⟩ := List.getElem?_of_mem hd
    exact c.def_ i (d := d.dd) (by unfold Info.fn; rw [List.getElem?_map, hi] <;> rfl)
  · have m := List.mem_of_getElem? hk
    have z := List.all_eq_true.mp hc _ m
    cases d with
    | int i =>
      obtain ⟨t, ht⟩ := He.int_ok inK G (fact (.int x i) (List.mem_append_right _ (List.mem_append_right _ (List.mem_map.mpr ⟨_, m, rfl⟩))))
      exact ⟨_, .int i, ht, ⟨t, rfl⟩, fun A H => .int i⟩
    | _ => cases z
end MP
/-! MV: equations for reckoning with the little language. Own work. -/
namespace MP
section
variable {C : Ctx} {a r : Ex} {ρ : Env} {bs : List Bool}
theorem evC_nil : evC C bs .nil ρ = .ok ([], [], ρ) := by
  cases bs with
  | nil => simp only [evC]
  | cons b bs => cases b <;> simp only [evC]
theorem evC_t : evC C (true :: bs) (.cons a r) ρ = (evE C a ρ).bind fun x => (match x.1 with
    | .rf i => (evC C bs r x.2).bind fun z => (match z.2.2.at i with
      | .ol _ xs => if some i ∈ z.2.1 then .st else .ok (.ol true xs :: z.1, some i :: z.2.1, z.2.2)
      | _ => .st)
    | .nw xs => (evC C bs r x.2).bind fun z => if none ∈ z.2.1 then .st else .ok (.ol true xs :: z.1, none :: z.2.1, z.2.2)
    | .d _ => .st) := by simp only [evC] <;> rfl
theorem evC_f : evC C (false :: bs) (.cons a r) ρ = (evE C a ρ).bind fun x => (ofO (tk x.2 x.1)).bind fun y => (evC C bs r y.2).bind fun z => .ok (.d y.1 :: z.1, z.2) := by simp only [evC, List.tail]
theorem evC_e : evC C [] (.cons a r) ρ = (evE C a ρ).bind fun x => (ofO (tk x.2 x.1)).bind fun y => (evC C [] r y.2).bind fun z => .ok (.d y.1 :: z.1, z.2) := by simp only [evC, List.tail]
end
theorem at0 (s : Sl) (ρ : Env) : Env.at (s :: ρ) 0 = s := rfl
theorem at1 (s : Sl) (ρ : Env) (i : Nat) : Env.at (s :: ρ) (i + 1) = Env.at ρ i := rfl
theorem set0 {α : Type} (s t : α) (ρ : List α) : (s :: ρ).set 0 t = t :: ρ := rfl
theorem set1 {α : Type} (s t : α) (ρ : List α) (i : Nat) : (s :: ρ).set (i + 1) t = s :: ρ.set i t := rfl
theorem loopF_keep {body : D → Env → Rs (Fl × Env)} (I : Env → Prop) : ∀ (xs : List D) (ρ : Env), (∀ x ∈ xs, ∀ ρ, I ρ → ∃ ρ', body x ρ = .ok (.nx, ρ') ∧ I ρ') → I ρ → ∃ ρ', loopF body xs ρ = .ok (.nx, ρ') ∧ I ρ'
  | [], ρ, _, h => ⟨ρ, rfl, h⟩
  | x :: xs, ρ, hs, h => by
    obtain ⟨ρ1, e, h1⟩ := hs x List.mem_cons_self ρ h
    obtain ⟨ρ2, e2, h2⟩ := loopF_keep I xs ρ1 (fun y hy => hs y (List.mem_cons_of_mem _ hy)) h1
    refine ⟨ρ2, ?_, h2⟩
    simp only [loopF, e, Rs.bind_ok]
    exact e2
theorem mapC_keep {step : D → Env → Rs (Option D × Env)} (I : Env → Prop) (f : D → D) : ∀ (xs : List D) (ρ : Env), (∀ x ∈ xs, ∀ ρ, I ρ → ∃ ρ', step x ρ = .ok (some (f x), ρ') ∧ I ρ') → I ρ → ∃ ρ', mapC step xs ρ = .ok (xs.map f, ρ') ∧ I ρ'
  | [], ρ, _, h => ⟨ρ, rfl, h⟩
  | x :: xs, ρ, hs, h => by
    obtain ⟨ρ1, e, h1⟩ := hs x List.mem_cons_self ρ h
    obtain ⟨ρ2, e2, h2⟩ := mapC_keep I f xs ρ1 (fun y hy => hs y (List.mem_cons_of_mem _ hy)) h1
    refine ⟨ρ2, ?_, h2⟩
    simp only [mapC, e, Rs.bind_ok, e2]
    rfl
theorem okShow_int {i : Int} (h : i.natAbs < 2 ^ 64) : okShow (.int i) = true := by
  have h2 : i.natAbs.log2 < 1920 := by
    by_cases z : i.natAbs = 0
    · rw [z]; decide
    · exact (Nat.log2_lt z).mpr (Nat.lt_of_lt_of_le h (Nat.pow_le_pow_right (by decide) (by decide)))
  simp [okShow, D.plain, D.shw, h2, D.dep, D.sz, line]
  omega
theorem eqv_ii (i j : Int) : D.eqv (.int i) (.int j) = (i == j) := rfl
theorem eqv_bb (i j : Bool) : D.eqv (.bl i) (.bl j) = (i == j) := rfl
theorem eqv_ll (x y : List D) : D.eqv (.lst x) (.lst y) = D.eqvs x y := rfl
theorem eqv_tt (x y : List D) : D.eqv (.tup x) (.tup y) = D.eqvs x y := rfl
theorem okEq_i (i : Int) : okEq (.int i) = true := rfl
theorem okEq_b (i : Bool) : okEq (.bl i) = true := rfl
theorem sem_eq_ii (i j : Int) : sem2 .eq (.int i) (.int j) = some (.d (.bl (i == j))) := rfl
theorem sem_ne_ii (i j : Int) : sem2 .ne (.int i) (.int j) = some (.d (.bl (!(i == j)))) := rfl
theorem sem_eq_bb (i j : Bool) : sem2 .eq (.bl i) (.bl j) = some (.d (.bl (i == j))) := rfl
theorem sem_ne_bb (i j : Bool) : sem2 .ne (.bl i) (.bl j) = some (.d (.bl (!(i == j)))) := rfl
theorem sem_repr (x : D) (h : okShow x = true) : sem1 .repr x = some (.d (.rp x)) := by simp [sem1, h]
mutual
theorem beq_refl : ∀ x : D, D.plain x = true → D.beq x x = true
  | .non, _ => rfl
  | .bl a, _ => by simp [D.beq]
  | .int a, _ => by simp [D.beq]
  | .str a, _ => by simp [D.beq]
  | .lst xs, h => by
    simp only [D.plain] at h
    simp only [D.beq]
    exact beqs_refl xs h
  | .tup xs, h => by
    simp only [D.plain] at h
    simp only [D.beq]
    exact beqs_refl xs h
  | .rp x, h => by simp [D.plain] at h
  | .fn _ _, h => by simp [D.plain] at h
  | .fz _, h => by simp [D.plain] at h
theorem beqs_refl : ∀ xs : List D, D.plains xs = true → D.beqs xs xs = true
  | [], _ => rfl
  | x :: xs, h => by
    simp only [D.plains, Bool.and_eq_true] at h
    simp only [D.beqs, Bool.and_eq_true]
    exact ⟨beq_refl x h.1, beqs_refl xs h.2⟩
end
theorem sem_ne_rp (x : D) (h : okShow x = true) : sem2 .ne (.rp x) (.rp x) = some (.d (.bl false)) := by
  simp only [okShow, Bool.and_eq_true] at h
  simp [sem2, beq_refl x h.1]
theorem sem_eq_rp (x : D) (h : okShow x = true) : sem2 .eq (.rp x) (.rp x) = some (.d (.bl true)) := by
  simp only [okShow, Bool.and_eq_true] at h
  simp [sem2, beq_refl x h.1]
theorem okShow_bb (a b : Bool) : okShow (.lst [.bl a, .bl b]) = true := by cases a <;> cases b <;> decide
def bodyF (C : Ctx) (t : Tg) (b : Cm) (y : D) (ρ : Env) : Rs (Fl × Env) := (ofO (asgT t y ρ)).bind fun ρ2 => exC C b ρ2
theorem for_eq (C : Ctx) (t : Tg) (it : Ex) (b : Cm) (ρ : Env) : exC C (.for_ t it b) ρ = (evI C it ρ).bind fun x => loopF (bodyF C t b) x.1 x.2 := by
  simp only [exC]
  rfl
def stepL (C : Ctx) (tg : Tg) (c elt : Ex) (vs : List Nat) (y : D) (ρ1 : Env) : Rs (Option D × Env) :=
  (ofO (asgT tg y (wipeE ρ1 vs))).bind fun ρ2 => (evT C c ρ2).bind fun t => if t.1 then (evE C elt t.2).bind fun z => (ofO (tk z.2 z.1)).bind fun w => .ok (some w.1, w.2) else .ok (none, t.2)
theorem lc_eq (C : Ctx) (tg : Tg) (it c elt : Ex) (vs : List Nat) (ρ : Env) : evE C (.lc tg it c elt vs) ρ = (evI C it ρ).bind fun x => (ofO (noOl x.2 vs)).bind fun _ => if x.1.length ≤ line then
      ((mapC (stepL C tg c elt vs) x.1 x.2).calm).bind fun r => .ok (.nw r.1, backE x.2 r.2 vs) else .st := by
  simp only [evE]
  rfl
def stepM (C : Ctx) (tg : Tg) (c : Ex) (tg1 : Tg) (it1 c1 elt : Ex) (vs vs1 : List Nat) (y : D) (ρ1 : Env) : Rs (List D × Env) :=
  (ofO (asgT tg y (wipeE ρ1 vs))).bind fun ρ2 => (evT C c ρ2).bind fun t => if t.1 then (evI C it1 t.2).bind fun q => (mapC (stepL C tg1 c1 elt vs1) q.1 q.2).bind fun r => .ok (r.1, wipeE r.2 vs1) else .ok ([], t.2)
theorem lc2_eq (C : Ctx) (tg : Tg) (it c : Ex) (tg1 : Tg) (it1 c1 elt : Ex) (vs vs1 : List Nat) (ρ : Env) : evE C (.lc2 tg it c tg1 it1 c1 elt vs vs1) ρ = (evI C it ρ).bind fun x => (ofO (noOl x.2 vs)).bind fun _ =>
      ((mapC2 (stepM C tg c tg1 it1 c1 elt vs vs1) x.1 x.2).calm).bind fun r => if r.1.length ≤ line then .ok (.nw r.1, backE x.2 r.2 vs) else .st := by
  simp only [evE] <;> rfl
theorem mapC2_keep {step : D → Env → Rs (List D × Env)} (I : Env → Prop) (f : D → List D) : ∀ (xs : List D) (ρ : Env), (∀ x ∈ xs, ∀ ρ, I ρ → ∃ ρ', step x ρ = .ok (f x, ρ') ∧ I ρ') → I ρ → ∃ ρ', mapC2 step xs ρ = .ok (xs.flatMap f, ρ') ∧ I ρ'
  | [], ρ, _, h => ⟨ρ, rfl, h⟩
  | x :: xs, ρ, hs, h => by
    obtain ⟨ρ1, e, h1⟩ := hs x List.mem_cons_self ρ h
    obtain ⟨ρ2, e2, h2⟩ := mapC2_keep I f xs ρ1 (fun y hy => hs y (List.mem_cons_of_mem _ hy)) h1
    refine ⟨ρ2, ?_, h2⟩
    simp only [mapC2, e, Rs.bind_ok, e2, List.flatMap_cons]
theorem mapC_fm {step : D → Env → Rs (Option D × Env)} (I : Env → Prop) (g : D → Option D) : ∀ (xs : List D) (ρ : Env), (∀ x ∈ xs, ∀ ρ, I ρ → ∃ ρ', step x ρ = .ok (g x, ρ') ∧ I ρ') → I ρ → ∃ ρ', mapC step xs ρ = .ok (xs.filterMap g, ρ') ∧ I ρ'
  | [], ρ, _, h => ⟨ρ, rfl, h⟩
  | x :: xs, ρ, hs, h => by
    obtain ⟨ρ1, e, h1⟩ := hs x List.mem_cons_self ρ h
    obtain ⟨ρ2, e2, h2⟩ := mapC_fm I g xs ρ1 (fun y hy => hs y (List.mem_cons_of_mem _ hy)) h1
    refine ⟨ρ2, ?_, h2⟩
    simp only [mapC, e, Rs.bind_ok, e2, List.filterMap_cons]
    cases g x <;> rfl
/-- a comprehension whose turns are known: g gives what a turn adds -/
theorem lc_fm {C : Ctx} {tg : Tg} {it c elt : Ex} {vs : List Nat} {ρ ρ1 : Env} {xs : List D} (I : Env → Prop) (g : D → Option D) (hi : evI C it ρ = .ok (xs, ρ1)) (hn : noOl ρ1 vs = some ()) (hl : xs.length ≤ line) (h0 : I ρ1)
    (hs : ∀ x ∈ xs, ∀ ρ, I ρ → ∃ ρ', stepL C tg c elt vs x ρ = .ok (g x, ρ') ∧ I ρ') (hb : ∀ ρ', I ρ' → backE ρ1 ρ' vs = ρ1) : evE C (.lc tg it c elt vs) ρ = .ok (.nw (xs.filterMap g), ρ1) := by
  obtain ⟨ρ', e, h⟩ := mapC_fm I g xs ρ1 hs h0
  rw [lc_eq, hi]
  simp only [Rs.bind_ok, hn, ofO_some]
  rw [if_pos hl, e]
  simp only [Rs.calm_ok, Rs.bind_ok, hb ρ' h]
theorem dBls_rep : ∀ m : Nat, dBls (List.replicate m (.bl true)) = some (List.replicate m true)
  | 0 => rfl
  | m + 1 => by simp [List.replicate_succ, dBls, dBls_rep m]
theorem fm_true {α : Type} : ∀ xs : List α, xs.filterMap (fun _ => some (D.bl true)) = List.replicate xs.length (.bl true)
  | [] => rfl
  | x :: xs => by simp [List.replicate_succ, fm_true xs]
/-- list(range(..)): never let simp see the test of its length (the kernel then recurses too deeply) -/
theorem lrg1_eq {C : Ctx} {a : Ex} {ρ ρ1 : Env} {m : Int} (e : evE C a ρ = .ok (.d (.int m), ρ1)) (ok : rngOk 0 m = true) (hl : (rangeD 0 m).length ≤ line) : evE C (.lrg (.rng1 a)) ρ = .ok (.nw (rangeD 0 m), ρ1) := by
  rw [show evE C (.lrg (.rng1 a)) ρ = (evI C (.rng1 a) ρ).bind fun x => if x.1.length ≤ line then .ok (.nw x.1, x.2) else .st by simp only [evE]]
  rw [show evI C (.rng1 a) ρ = (evE C a ρ).bind fun x => (ofO (opInt x.1)).bind fun i => if rngOk 0 i then .ok (rangeD 0 i, x.2) else .st by simp only [evI]]
  rw [e]
  simp only [Rs.bind_ok, opInt, ofO_some]
  rw [if_pos ok]
  simp only [Rs.bind_ok]
  rw [if_pos hl]
end MP
/-! MW: more equations for reckoning. Own work. -/
namespace MP
def pickF (r : Option D) (ρ : Env) : Fl × Env := match r with
  | some v => (.rt (.d v), ρ)
  | none => (.nx, ρ)
theorem loopF_find {body : D → Env → Rs (Fl × Env)} (I : Env → Prop) (g : D → Option D) : ∀ (xs : List D) (ρ : Env), (∀ x ∈ xs, ∀ ρ, I ρ → ∃ ρ', body x ρ = .ok (pickF (g x) ρ') ∧ I ρ') → I ρ → ∃ ρ', loopF body xs ρ = .ok (pickF (xs.findSome? g) ρ') ∧ I ρ'
  | [], ρ, _, h => ⟨ρ, rfl, h⟩
  | x :: xs, ρ, hs, h => by
    obtain ⟨ρ1, e, h1⟩ := hs x List.mem_cons_self ρ h
    cases hg : g x with
    | some v =>
      rw [hg] at e
      refine ⟨ρ1, ?_, h1⟩
      simp only [loopF, e, Rs.bind_ok, pickF, List.findSome?_cons, hg]
    | none =>
      rw [hg] at e
      obtain ⟨ρ2, e2, h2⟩ := loopF_find I g xs ρ1 (fun y hy => hs y (List.mem_cons_of_mem _ hy)) h1
      refine ⟨ρ2, ?_, h2⟩
      simp only [loopF, e, Rs.bind_ok, pickF, List.findSome?_cons, hg]
      exact e2
theorem rng1_eq {C : Ctx} {a : Ex} {ρ ρ1 : Env} {m : Int} (e : evE C a ρ = .ok (.d (.int m), ρ1)) (ok : rngOk 0 m = true) : evI C (.rng1 a) ρ = .ok (rangeD 0 m, ρ1) := by
  rw [show evI C (.rng1 a) ρ = (evE C a ρ).bind fun x => (ofO (opInt x.1)).bind fun i => if rngOk 0 i then .ok (rangeD 0 i, x.2) else .st by simp only [evI]]
  rw [e]
  simp only [Rs.bind_ok, opInt, ofO_some]
  rw [if_pos ok]
theorem rng2_eq {C : Ctx} {a b : Ex} {ρ ρ1 ρ2 : Env} {m k : Int} (e : evE C a ρ = .ok (.d (.int m), ρ1)) (e2 : evE C b ρ1 = .ok (.d (.int k), ρ2)) (ok : rngOk m k = true) : evI C (.rng2 a b) ρ = .ok (rangeD m k, ρ2) := by
  rw [show evI C (.rng2 a b) ρ = (evE C a ρ).bind fun x => (ofO (opInt x.1)).bind fun i => (evE C b x.2).bind fun y => (ofO (opInt y.1)).bind fun j => if rngOk i j then .ok (rangeD i j, y.2) else .st by simp only [evI]]
  rw [e]
  simp only [Rs.bind_ok, opInt, ofO_some]
  rw [e2]
  simp only [Rs.bind_ok, opInt, ofO_some]
  rw [if_pos ok]
theorem bodyF_ok {C : Ctx} {t : Tg} {b : Cm} {y : D} {ρ ρ2 : Env} (h : asgT t y ρ = some ρ2) : bodyF C t b y ρ = exC C b ρ2 := by
  unfold bodyF
  rw [h]
  simp only [ofO_some, Rs.bind_ok]
theorem evE_var (C : Ctx) (i : Nat) (d : D) (ρ : Env) (h : ρ.at i = .d d) : evE C (.var i) ρ = .ok (.d d, ρ) := by
  simp only [evE, h]
theorem mapC_ex {step : D → Env → Rs (Option D × Env)} (I : Env → Prop) (P : D → Prop) : ∀ (xs : List D) (ρ : Env), (∀ x ∈ xs, ∀ ρ, I ρ → ∃ ρ' y, step x ρ = .ok (some y, ρ') ∧ I ρ' ∧ P y) → I ρ → ∃ ys ρ', mapC step xs ρ = .ok (ys, ρ') ∧ I ρ' ∧ ys.length = xs.length ∧ ∀ y ∈ ys, P y
  | [], ρ, _, h => ⟨[], ρ, rfl, h, rfl, by simp⟩
  | x :: xs, ρ, hs, h => by
    obtain ⟨ρ1, y, e, h1, p⟩ := hs x List.mem_cons_self ρ h
    obtain ⟨ys, ρ2, e2, h2, l, ps⟩ := mapC_ex I P xs ρ1 (fun y hy => hs y (List.mem_cons_of_mem _ hy)) h1
    refine ⟨y :: ys, ρ2, ?_, h2, by rw [List.length_cons, l, List.length_cons], fun z hz => ?_⟩
    · simp only [mapC, e, Rs.bind_ok, e2]
      rfl
    · rcases List.mem_cons.mp hz with rfl | hz
      · exact p
      · exact ps z hz
theorem lc_ex {C : Ctx} {tg : Tg} {it c elt : Ex} {vs : List Nat} {ρ ρ1 : Env} {xs : List D} (I : Env → Prop) (P : D → Prop) (hi : evI C it ρ = .ok (xs, ρ1)) (hn : noOl ρ1 vs = some ()) (hl : xs.length ≤ line) (h0 : I ρ1)
    (hs : ∀ x ∈ xs, ∀ ρ, I ρ → ∃ ρ' y, stepL C tg c elt vs x ρ = .ok (some y, ρ') ∧ I ρ' ∧ P y) : ∃ ys ρ', evE C (.lc tg it c elt vs) ρ = .ok (.nw ys, backE ρ1 ρ' vs) ∧ I ρ' ∧ ys.length = xs.length ∧ ∀ y ∈ ys, P y := by
  obtain ⟨ys, ρ', e, h, l, p⟩ := mapC_ex I P xs ρ1 hs h0
  refine ⟨ys, ρ', ?_, h, l, p⟩
  rw [lc_eq, hi]
  simp only [Rs.bind_ok, hn, ofO_some]
  rw [if_pos hl, e]
  simp only [Rs.calm_ok, Rs.bind_ok]
theorem rlen (m : Int) : (rangeD 0 m).length = m.toNat := by simp [rangeD]
theorem rangeD_ints (m : Int) : ∃ xs : List Int, rangeD 0 m = xs.map D.int ∧ xs.length = m.toNat := ⟨(List.range m.toNat).map (fun i : Nat => (0 : Int) + (i : Int)), by simp [rangeD, Function.comp_def], by simp⟩
theorem ints_of : ∀ ys : List D, (∀ y ∈ ys, ∃ i, y = .int i) → ∃ hs : List Int, ys = hs.map .int
  | [], _ => ⟨[], rfl⟩
  | y :: ys, h => by
    obtain ⟨i, rfl⟩ := h y List.mem_cons_self
    obtain ⟨hs, rfl⟩ := ints_of ys fun z hz => h z (List.mem_cons_of_mem _ hz)
    exact ⟨i :: hs, rfl⟩
theorem fm_congr {α β : Type} {f g : α → Option β} : ∀ l : List α, (∀ x ∈ l, f x = g x) → l.filterMap f = l.filterMap g
  | [], _ => rfl
  | x :: l, h => by
    rw [List.filterMap_cons, List.filterMap_cons, h x List.mem_cons_self, fm_congr l fun y hy => h y (List.mem_cons_of_mem _ hy)]
theorem okEq_bls : ∀ l : List Bool, okEq (.lst (l.map .bl)) = true := fun l => by
  have h : D.plains (l.map .bl) = true ∧ D.deps (l.map .bl) = 0 := by
    induction l with
    | nil => exact ⟨rfl, rfl⟩
    | cons b l ih => exact ⟨by simp [D.plains, D.plain, ih.1], by simp [D.deps, D.dep, ih.2]⟩
  simp [okEq, D.plain, D.dep, h.1, h.2]
theorem eqv_bls : ∀ l : List Bool, D.eqvs (l.map .bl) (l.map .bl) = true
  | [] => rfl
  | b :: l => by simp [D.eqvs, D.eqv, eqv_bls l]
theorem lc2_fm {C : Ctx} {tg tg1 : Tg} {it c it1 c1 elt : Ex} {vs vs1 : List Nat} {ρ ρ1 : Env} {xs : List D} (I : Env → Prop) (f : D → List D) (hi : evI C it ρ = .ok (xs, ρ1)) (hn : noOl ρ1 vs = some ()) (hl : (xs.flatMap f).length ≤ line) (h0 : I ρ1)
    (hs : ∀ x ∈ xs, ∀ ρ, I ρ → ∃ ρ', stepM C tg c tg1 it1 c1 elt vs vs1 x ρ = .ok (f x, ρ') ∧ I ρ') (hb : ∀ ρ', I ρ' → backE ρ1 ρ' vs = ρ1) : evE C (.lc2 tg it c tg1 it1 c1 elt vs vs1) ρ = .ok (.nw (xs.flatMap f), ρ1) := by
  obtain ⟨ρ', e, h⟩ := mapC2_keep I f xs ρ1 hs h0
  rw [lc2_eq, hi]
  simp only [Rs.bind_ok, hn, ofO_some]
  rw [e]
  simp only [Rs.calm_ok, Rs.bind_ok]
  rw [if_pos hl, hb ρ' h]
theorem flat_le {α β : Type} {f : α → List β} {m : Nat} : ∀ xs : List α, (∀ x ∈ xs, (f x).length ≤ m) → (xs.flatMap f).length ≤ xs.length * m
  | [], _ => by simp
  | x :: xs, h => by
    have h1 := h x List.mem_cons_self
    have h2 := flat_le xs fun y hy => h y (List.mem_cons_of_mem _ hy)
    rw [List.flatMap_cons, List.length_append, List.length_cons, Nat.add_mul, Nat.one_mul]
    omega
theorem cut_len {α : Type} (xs : List α) (lo hi : Option Int) : (cut xs lo hi).length ≤ xs.length := by
  simp [cut]
  omega
end MP
namespace MP
open PySem
open PySem.Spec
open PyProof.Rows
open L2
def top (i : Nat) : Stmt := PySem.Challenge.pw_maywrite_k48_whole_failing_days_borne.main.body.getD i (.Pass ⟨0, 0, 0, 0⟩)
def n_0 : List Str := ["value"]
def n_1 : List Str := ["value", "low", "high"]
def n_2 : List Str := ["value", "many"]
def n_3 : List Str := ["value", "number"]
def n_4 : List Str := ["value", "days"]
def n_5 : List Str := ["value", "hands", "fails", "sends", "each"]
def n_6 : List Str := ["value"]
def n_7 : List Str := ["dues", "first", "last", "hands", "fails", "sends", "wanted", "day", "end", "number"]
def n_8 : List Str := ["dues", "days", "found", "first", "last"]
def n_9 : List Str := ["dues"]
def n_10 : List Str := ["dues"]
def n_11 : List Str := ["dues", "hands", "fails", "sends", "found", "many"]
def n_12 : List Str := ["script", "k", "spot", "mixed", "each"]
def n_13 : List Str := ["well", "many", "digit"]
def n_14 : List Str := ["well", "some"]
def n_15 : List Str := ["script"]
def n_16 : List Str := ["well", "days", "most", "many", "wide", "hands", "k", "sends", "turn", "day", "number"]
def n_17 : List Str := ["hands", "first", "last", "fails", "some"]
def n_18 : List Str := ["dues", "hands", "fails", "sends", "first", "last", "must", "each"]
def n_19 : List Str := ["well", "turn", "dues", "hands", "bound", "sends", "some", "fails", "due", "more", "each"]
def n_20 : List Str := ["script", "k"]
def nmz : List Str := ["is_whole", "is_number", "is_tuple_of", "are_hands", "is_send", "are_dues", "check_dues", "is_late", "late_of", "is_in_time", "late_days", "bears_fails", "_law_well", "_law_dip", "_law_one", "_law_turns", "_law_dues", "_law_room", "_law_late_days", "_law_right", "law"]
def csz : List (Str × MP.D) := [("MOST_DAYS", .int (60)), ("MOST_HANDS", .int (999)), ("MOST_FAILS", .int (9)), ("MOST_SENDS", .int (12)), ("MOST_NUMBER", .int (9999))]
def frz : List Str := ["abs", "all", "bool", "divmod", "int", "isinstance", "len", "list", "max", "min", "range", "repr", "sorted", "sum", "tuple"]
def kwz : List ((Nat × Nat × List Str) × List Nat) := [((11, 0, ["dues"]), [0])]
def tcz (sc : Scope) (N : List Str) : Tc := ⟨sc, false, N, numb 0 nmz, numb 0 (csz.map (·.1)), frz, kwz⟩
/-- is_whole -/
def c_0 : Cm :=
  .ret (.an (.u1 (.isI) (.var 0)) (.u1 (.not) (.u1 (.isB) (.var 0))))
def d_0 : DefI := ⟨"is_whole", top 4, n_0, ["value"], [false], c_0⟩
/-- is_number -/
def c_1 : Cm :=
  .seq (.iff (.or (.nt (.tr (.call 0 (.cons (.var 0) (.nil))))) (.an (.tr (.u1 (.notN) (.var 1))) (.tr (.u2 (.lt) (.var 0) (.var 1))))) (.ret (.lit (.bl false))) (.skip)) (.ret (.or (.u1 (.isN) (.var 2)) (.u2 (.le) (.var 0) (.var 2))))
def d_1 : DefI := ⟨"is_number", top 5, n_1, ["value", "low", "high"], [false, false, false], c_1⟩
/-- is_tuple_of -/
def c_2 : Cm :=
  .ret (.an (.u1 (.isTup) (.var 0)) (.u2 (.eq) (.u1 (.len) (.var 0)) (.var 1)))
def d_2 : DefI := ⟨"is_tuple_of", top 6, n_2, ["value", "many"], [false, false], c_2⟩
def l_3_0 : Ex := .lc (.name 1) (.walk (.var 0)) (.omit) (.call 1 (.cons (.var 1) (.cons (.lit (.int 0)) (.cons (.glo 1) (.nil))))) [1]
/-- are_hands -/
def c_3 : Cm :=
  .seq (.iff (.or (.nt (.tr (.u1 (.isTup) (.var 0)))) (.nt (.tr (.chain (.le) (.le) (.lit (.int 1)) (.u1 (.len) (.var 0)) (.glo 0))))) (.ret (.lit (.bl false))) (.skip)) (.ret (.u1 (.all) l_3_0))
def d_3 : DefI := ⟨"are_hands", top 13, n_3, ["value"], [false], c_3⟩
/-- is_send -/
def c_4 : Cm :=
  .seq (.iff (.or (.nt (.tr (.call 2 (.cons (.var 0) (.cons (.lit (.int 3)) (.nil)))))) (.nt (.tr (.call 1 (.cons (.u2 (.ix) (.var 0) (.lit (.int 0))) (.cons (.lit (.int 0)) (.cons (.u2 (.sub) (.var 1) (.lit (.int 1))) (.nil)))))))) (.ret (.lit (.bl false))) (.skip)) (.ret (.an (.call 1 (.cons (.u2 (.ix) (.var 0) (.lit (.int 1))) (.cons (.u2 (.ix) (.var 0) (.lit (.int 0))) (.cons (.u2 (.sub) (.var 1) (.lit (.int 1))) (.nil))))) (.call 1 (.cons (.u2 (.ix) (.var 0) (.lit (.int 2))) (.cons (.lit (.int 1)) (.cons (.glo 4) (.nil)))))))
def d_4 : DefI := ⟨"is_send", top 14, n_4, ["value", "days"], [false, false], c_4⟩
def l_5_0 : Ex := .lc (.name 4) (.walk (.var 3)) (.omit) (.call 4 (.cons (.var 4) (.cons (.u1 (.len) (.var 1)) (.nil)))) [4]
/-- are_dues -/
def c_5 : Cm :=
  .seq (.iff (.or (.nt (.tr (.call 2 (.cons (.var 0) (.cons (.lit (.int 3)) (.nil)))))) (.or (.nt (.tr (.call 3 (.cons (.u2 (.ix) (.var 0) (.lit (.int 0))) (.nil))))) (.nt (.tr (.call 1 (.cons (.u2 (.ix) (.var 0) (.lit (.int 1))) (.cons (.lit (.int 0)) (.cons (.glo 2) (.nil))))))))) (.ret (.lit (.bl false))) (.skip)) (.seq (.asg (.tup (.cons (.name 1) (.cons (.name 2) (.cons (.name 3) (.nil))))) (.var 0)) (.seq (.iff (.or (.nt (.tr (.u1 (.isTup) (.var 3)))) (.tr (.u2 (.gt) (.u1 (.len) (.var 3)) (.glo 3)))) (.ret (.lit (.bl false))) (.skip)) (.ret (.an (.u1 (.all) l_5_0) (.u2 (.eq) (.u1 (.toLst) (.var 3)) (.u1 (.sorted) (.var 3)))))))
def d_5 : DefI := ⟨"are_dues", top 15, n_5, ["value"], [false], c_5⟩
/-- check_dues -/
def c_6 : Cm :=
  .iff (.nt (.tr (.call 5 (.cons (.var 0) (.nil))))) (.none) (.skip)
def d_6 : DefI := ⟨"check_dues", top 16, n_6, ["value"], [false], c_6⟩
def l_7_0 : Ex := .lc (.tup (.cons (.name 7) (.cons (.name 8) (.cons (.name 9) (.nil))))) (.walk (.var 5)) (.an (.tr (.u2 (.ge) (.var 7) (.var 1))) (.tr (.u2 (.le) (.var 8) (.var 2)))) (.var 9) [7, 8, 9]
/-- is_late -/
def c_7 : Cm :=
  .seq (.asg (.tup (.cons (.name 3) (.cons (.name 4) (.cons (.name 5) (.nil))))) (.var 0)) (.seq (.asg (.name 6) (.u1 (.sum) l_7_0)) (.ret (.u2 (.gt) (.var 6) (.u1 (.sum) (.sl (.u1 (.rev) (.u1 (.sorted) (.sl (.var 3) (.tr (.var 1)) (.tr (.u2 (.add) (.var 2) (.lit (.int 1))))))) (.tr (.var 4)) (.omit))))))
def d_7 : DefI := ⟨"is_late", top 17, n_7, ["dues", "first", "last"], [false, false, false], c_7⟩
def r_8_0 : Ex := .lrg (.rng1 (.u1 (.len) (.u2 (.ix) (.var 0) (.lit (.int 0)))))
def l_8_0 : Ex := .lc2 (.name 3) (.walk (.var 1)) (.omit) (.name 4) (.walk (.sl (.var 1) (.tr (.var 3)) (.omit))) (.tr (.call 7 (.cons (.var 0) (.cons (.var 3) (.cons (.var 4) (.nil)))))) (.tup (.cons (.var 3) (.cons (.var 4) (.nil)))) [3, 4] [4]
/-- late_of -/
def c_8 : Cm :=
  .seq (.asg (.name 1) r_8_0) (.seq (.asg (.name 2) l_8_0) (.ret (.ite (.tr (.u2 (.ne) (.var 2) (.lst (.nil)))) (.u2 (.ix) (.var 2) (.lit (.int 0))) (.lit (.non)))))
def d_8 : DefI := ⟨"late_of", top 18, n_8, ["dues"], [false], c_8⟩
/-- is_in_time -/
def c_9 : Cm :=
  .ret (.u1 (.isN) (.call 10 (.cons (.var 0) (.nil))))
def d_9 : DefI := ⟨"is_in_time", top 19, n_9, ["dues"], [false], c_9⟩
/-- late_days -/
def c_10 : Cm :=
  .seq (.expr (.call 6 (.cons (.var 0) (.nil)))) (.ret (.call 8 (.cons (.var 0) (.nil))))
def d_10 : DefI := ⟨"late_days", top 20, n_10, ["dues"], [false], c_10⟩
def l_11_0 : Ex := .lc (.name 5) (.rng1 (.u2 (.add) (.glo 2) (.lit (.int 1)))) (.tr (.u1 (.isN) (.call 8 (.cons (.tup (.cons (.var 1) (.cons (.var 5) (.cons (.var 3) (.nil))))) (.nil))))) (.var 5) [5]
/-- bears_fails -/
def c_11 : Cm :=
  .seq (.expr (.call 6 (.cons (.var 0) (.nil)))) (.seq (.asg (.tup (.cons (.name 1) (.cons (.name 2) (.cons (.name 3) (.nil))))) (.var 0)) (.seq (.asg (.name 4) l_11_0) (.ret (.ite (.tr (.u2 (.ne) (.var 4) (.lst (.nil)))) (.u2 (.ix) (.var 4) (.u1 (.neg) (.lit (.int 1)))) (.lit (.non))))))
def d_11 : DefI := ⟨"bears_fails", top 21, n_11, ["dues"], [false], c_11⟩
def g_12_0 : Cm := .asg (.name 3) (.u2 (.mod) (.u1 (.toInt) (.u2 (.add) (.u2 (.add) (.u2 (.mul) (.var 3) (.lit (.int 43013))) (.u2 (.mod) (.u1 (.toInt) (.var 4)) (.lit (.int 2147480009)))) (.lit (.int 29)))) (.lit (.int 2147480009)))
def f_12_0 : Cm := .for_ (.name 4) (.walk (.u2 (.add) (.sl (.var 0) (.omit) (.tr (.lit (.int 7)))) (.lst (.cons (.var 2) (.nil))))) g_12_0
/-- _law_well -/
def c_12 : Cm :=
  .seq (.asg (.name 2) (.ite (.tr (.u2 (.lt) (.var 1) (.u1 (.len) (.var 0)))) (.u1 (.toInt) (.u2 (.ix) (.var 0) (.var 1))) (.u2 (.add) (.u2 (.mul) (.lit (.int 6607)) (.var 1)) (.lit (.int 389))))) (.seq (.asg (.name 3) (.u2 (.add) (.lit (.int 80021)) (.u2 (.mul) (.lit (.int 7001)) (.var 1)))) (.seq f_12_0 (.ret (.lst (.cons (.ite (.or (.tr (.u2 (.lt) (.var 2) (.lit (.int 0)))) (.tr (.u2 (.ge) (.var 2) (.u2 (.pow) (.lit (.int 10)) (.lit (.int 15)))))) (.u1 (.abs) (.var 2)) (.lit (.int 0))) (.cons (.var 3) (.cons (.lit (.int 0)) (.nil))))))))
def d_12 : DefI := ⟨"_law_well", top 23, n_12, ["script", "k"], [false, false], c_12⟩
/-- _law_dip -/
def c_13 : Cm :=
  .seq (.iff (.tr (.u2 (.gt) (.u2 (.ix) (.var 0) (.lit (.int 0))) (.lit (.int 0)))) (.seq (.asg (.tup (.cons (.ixL 0 0) (.cons (.name 2) (.nil)))) (.u2 (.dm) (.u2 (.ix) (.var 0) (.lit (.int 0))) (.var 1))) (.ret (.var 2))) (.skip)) (.seq (.setIx 0 (.lit (.int 2)) (.u2 (.add) (.u2 (.ix) (.var 0) (.lit (.int 2))) (.lit (.int 1)))) (.seq (.setIx 0 (.lit (.int 1)) (.u2 (.mod) (.u1 (.toInt) (.u2 (.add) (.u2 (.add) (.u2 (.mul) (.u2 (.ix) (.var 0) (.lit (.int 1))) (.lit (.int 48271))) (.u2 (.mul) (.lit (.int 7919)) (.u2 (.ix) (.var 0) (.lit (.int 2))))) (.lit (.int 43)))) (.lit (.int 2147480009)))) (.ret (.u2 (.mod) (.u1 (.toInt) (.u2 (.fdiv) (.u2 (.ix) (.var 0) (.lit (.int 1))) (.lit (.int 157)))) (.var 1)))))
def d_13 : DefI := ⟨"_law_dip", top 24, n_13, ["well", "many"], [true, false], c_13⟩
/-- _law_one -/
def c_14 : Cm :=
  .ret (.u2 (.ix) (.var 1) (.call 13 (.cons (.var 0) (.cons (.u1 (.len) (.var 1)) (.nil)))))
def d_14 : DefI := ⟨"_law_one", top 25, n_14, ["well", "some"], [true, false], c_14⟩
def r_15_0 : Ex := .lrg (.rng1 (.u2 (.mx) (.lit (.int 2)) (.u2 (.mn) (.u1 (.len) (.var 0)) (.lit (.int 3)))))
/-- _law_turns -/
def c_15 : Cm :=
  .ret r_15_0
def d_15 : DefI := ⟨"_law_turns", top 26, n_15, ["script"], [false], c_15⟩
def l_16_0 : Ex := .lc (.name 6) (.rng1 (.var 3)) (.omit) (.call 13 (.cons (.var 0) (.cons (.var 4) (.nil)))) [6]
def g_16_1 : Cm := .seq (.asg (.name 9) (.call 13 (.cons (.var 0) (.cons (.var 3) (.nil))))) (.seq (.asg (.name 10) (.u2 (.add) (.lit (.int 1)) (.call 13 (.cons (.var 0) (.cons (.call 14 (.cons (.var 0) (.cons (.lst (.cons (.var 4) (.cons (.u2 (.mul) (.lit (.int 2)) (.var 4)) (.cons (.lit (.int 3)) (.nil))))) (.nil)))) (.nil)))))) (.expr (.app 7 (.tup (.cons (.var 9) (.cons (.u2 (.add) (.var 9) (.call 13 (.cons (.var 0) (.cons (.u2 (.sub) (.var 3) (.var 9)) (.nil))))) (.cons (.u2 (.mn) (.lit (.int 9999)) (.var 10)) (.nil))))))))
def f_16_1 : Cm := .for_ (.name 8) (.rng1 (.call 13 (.cons (.var 0) (.cons (.u2 (.add) (.var 2) (.lit (.int 1))) (.nil))))) g_16_1
/-- _law_dues -/
def c_16 : Cm :=
  .seq (.par [3, 4] (.cons (.u2 (.add) (.lit (.int 1)) (.call 13 (.cons (.var 0) (.cons (.var 1) (.nil))))) (.cons (.call 14 (.cons (.var 0) (.cons (.lst (.cons (.lit (.int 2)) (.cons (.lit (.int 6)) (.cons (.lit (.int 40)) (.cons (.lit (.int 1000)) (.nil)))))) (.nil)))) (.nil)))) (.seq (.asg (.name 5) (.u1 (.toTup) l_16_0)) (.seq (.asg (.name 7) (.lst (.nil))) (.seq f_16_1 (.ret (.tup (.cons (.var 5) (.cons (.call 13 (.cons (.var 0) (.cons (.call 14 (.cons (.var 0) (.cons (.lst (.cons (.lit (.int 1)) (.cons (.lit (.int 2)) (.cons (.lit (.int 3)) (.cons (.lit (.int 10)) (.nil)))))) (.nil)))) (.nil)))) (.cons (.u1 (.toTup) (.u1 (.sorted) (.var 7))) (.nil)))))))))
def d_16 : DefI := ⟨"_law_dues", top 27, n_16, ["well", "days", "most"], [true, false, false], c_16⟩
/-- _law_room -/
def c_17 : Cm :=
  .seq (.asg (.name 4) (.u1 (.sorted) (.sl (.var 0) (.tr (.var 1)) (.tr (.u2 (.add) (.var 2) (.lit (.int 1))))))) (.ret (.u1 (.sum) (.sl (.var 4) (.omit) (.tr (.u2 (.mx) (.lit (.int 0)) (.u2 (.sub) (.u1 (.len) (.var 4)) (.var 3)))))))
def d_17 : DefI := ⟨"_law_room", top 28, n_17, ["hands", "first", "last", "fails"], [false, false, false, false], c_17⟩
def l_18_0 : Ex := .lc (.name 7) (.walk (.var 3)) (.an (.tr (.u2 (.ge) (.u2 (.ix) (.var 7) (.lit (.int 0))) (.var 4))) (.tr (.u2 (.le) (.u2 (.ix) (.var 7) (.lit (.int 1))) (.var 5)))) (.u2 (.ix) (.var 7) (.lit (.int 2))) [7]
def g_18_1 : Cm := .seq (.asg (.name 6) (.u1 (.sum) l_18_0)) (.iff (.tr (.u2 (.gt) (.var 6) (.call 17 (.cons (.var 1) (.cons (.var 4) (.cons (.var 5) (.cons (.var 2) (.nil)))))))) (.ret (.tup (.cons (.var 4) (.cons (.var 5) (.nil))))) (.skip))
def f_18_1 : Cm := .for_ (.name 5) (.rng2 (.var 4) (.u1 (.len) (.var 1))) g_18_1
def f_18_2 : Cm := .for_ (.name 4) (.rng1 (.u1 (.len) (.var 1))) f_18_1
/-- _law_late_days -/
def c_18 : Cm :=
  .seq (.asg (.tup (.cons (.name 1) (.cons (.name 2) (.cons (.name 3) (.nil))))) (.var 0)) (.seq f_18_2 (.ret (.lit (.non))))
def d_18 : DefI := ⟨"_law_late_days", top 29, n_18, ["dues"], [false], c_18⟩
def l_19_0 : Ex := .lc (.name 7) (.rng1 (.lit (.int 10))) (.tr (.u1 (.isN) (.call 18 (.cons (.tup (.cons (.var 3) (.cons (.var 7) (.cons (.var 5) (.nil))))) (.nil))))) (.var 7) [7]
def l_19_1 : Ex := .lc (.name 7) (.rng1 (.lit (.int 10))) (.omit) (.call 9 (.cons (.tup (.cons (.var 3) (.cons (.var 7) (.cons (.var 5) (.nil))))) (.nil))) [7]
def l_19_2 : Ex := .lc (.name 7) (.rng1 (.lit (.int 10))) (.omit) (.u2 (.inn) (.var 7) (.var 6)) [7]
def r_19_0 : Ex := .lrg (.rng1 (.u1 (.len) (.var 6)))
def l_19_3 : Ex := .lc (.name 10) (.walk (.var 3)) (.omit) (.u2 (.add) (.var 10) (.lit (.int 1))) [10]
def l_19_4 : Ex := .lc (.name 10) (.walk (.var 9)) (.omit) (.u2 (.mn) (.lit (.int 999)) (.var 10)) [10]
def g_19_5 : Cm := .seq (.asg (.name 2) (.call 16 (.cons (.var 0) (.cons (.lit (.int 12)) (.cons (.lit (.int 8)) (.nil)))))) (.seq (.asg (.tup (.cons (.name 3) (.cons (.name 4) (.cons (.name 5) (.nil))))) (.var 2)) (.seq (.asg (.name 6) l_19_0) (.seq (.asg (.name 8) (.ite (.tr (.u2 (.ne) (.var 6) (.lst (.nil)))) (.u1 (.mx) (.var 6)) (.lit (.non)))) (.seq (.iff (.tr (.u2 (.ne) (.u1 (.repr) (.lst (.cons (.call 11 (.cons (.var 2) (.nil))) (.cons (.callK 11 (.nil) (.cons (.var 2) (.nil)) [0]) (.nil))))) (.u1 (.repr) (.lst (.cons (.var 8) (.cons (.var 8) (.nil))))))) (.ret (.lit (.bl false))) (.skip)) (.seq (.iff (.tr (.u2 (.ne) l_19_1 l_19_2)) (.ret (.lit (.bl false))) (.skip)) (.seq (.iff (.or (.tr (.u2 (.ne) (.var 6) r_19_0)) (.tr (.u2 (.ne) (.call 9 (.cons (.var 2) (.nil))) (.u1 (.isN) (.call 10 (.cons (.var 2) (.nil))))))) (.ret (.lit (.bl false))) (.skip)) (.seq (.iff (.tr (.u2 (.ne) (.call 11 (.cons (.tup (.cons (.var 3) (.cons (.var 4) (.cons (.tup (.nil)) (.nil))))) (.nil))) (.lit (.int 9)))) (.ret (.lit (.bl false))) (.skip)) (.seq (.asg (.name 9) (.u1 (.toTup) l_19_3)) (.seq (.iff (.an (.tr (.call 9 (.cons (.var 2) (.nil)))) (.tr (.u2 (.notB) (.call 9 (.cons (.tup (.cons (.u1 (.toTup) l_19_4) (.cons (.var 4) (.cons (.var 5) (.nil))))) (.nil))) (.lit (.bl true))))) (.ret (.lit (.bl false))) (.skip)) (.iff (.an (.tr (.call 9 (.cons (.var 2) (.nil)))) (.an (.tr (.u2 (.ne) (.var 5) (.tup (.nil)))) (.tr (.u2 (.notB) (.call 9 (.cons (.tup (.cons (.var 3) (.cons (.var 4) (.cons (.sl (.var 5) (.tr (.lit (.int 1))) (.omit)) (.nil))))) (.nil))) (.lit (.bl true)))))) (.ret (.lit (.bl false))) (.skip)))))))))))
def f_19_5 : Cm := .for_ (.name 1) (.rng1 (.lit (.int 4))) g_19_5
/-- _law_right -/
def c_19 : Cm :=
  .seq f_19_5 (.ret (.lit (.bl true)))
def d_19 : DefI := ⟨"_law_right", top 30, n_19, ["well"], [true], c_19⟩
def l_20_0 : Ex := .lc (.name 1) (.walk (.call 15 (.cons (.var 0) (.nil)))) (.omit) (.call 19 (.cons (.call 12 (.cons (.var 0) (.cons (.var 1) (.nil)))) (.nil))) [1]
/-- law -/
def c_20 : Cm :=
  .ret (.u1 (.all) l_20_0)
def d_20 : DefI := ⟨"law", top 31, n_20, ["script"], [false], c_20⟩
def dfz : List DefI := [d_0, d_1, d_2, d_3, d_4, d_5, d_6, d_7, d_8, d_9, d_10, d_11, d_12, d_13, d_14, d_15, d_16, d_17, d_18, d_19, d_20]
def inf : Info := ⟨dfz, csz, frz, kwz, 1000⟩
theorem ok_0 : d_0.Ok inf := ⟨⟨rfl, rfl, rfl, by decide +kernel, rfl, by decide +kernel, by decide +kernel⟩, by decide, by kernel_rfl, fun _ _ _ _ _ _ us hl => match us, hl with | [_], _ => rfl⟩
theorem ok_1 : d_1.Ok inf := ⟨⟨rfl, rfl, rfl, by decide +kernel, rfl, by decide +kernel, by decide +kernel⟩, by decide, by kernel_rfl, fun _ _ _ _ _ _ us hl => match us, hl with | [_, _, _], _ => rfl⟩
theorem ok_2 : d_2.Ok inf := ⟨⟨rfl, rfl, rfl, by decide +kernel, rfl, by decide +kernel, by decide +kernel⟩, by decide, by kernel_rfl, fun _ _ _ _ _ _ us hl => match us, hl with | [_, _], _ => rfl⟩
theorem ok_3 : d_3.Ok inf := ⟨⟨rfl, rfl, rfl, by decide +kernel, rfl, by decide +kernel, by decide +kernel⟩, by decide, by kernel_rfl, fun _ _ _ _ _ _ us hl => match us, hl with | [_], _ => rfl⟩
theorem ok_4 : d_4.Ok inf := ⟨⟨rfl, rfl, rfl, by decide +kernel, rfl, by decide +kernel, by decide +kernel⟩, by decide, by kernel_rfl, fun _ _ _ _ _ _ us hl => match us, hl with | [_, _], _ => rfl⟩
theorem ok_5 : d_5.Ok inf := ⟨⟨rfl, rfl, rfl, by decide +kernel, rfl, by decide +kernel, by decide +kernel⟩, by decide, by kernel_rfl, fun _ _ _ _ _ _ us hl => match us, hl with | [_], _ => rfl⟩
theorem ok_6 : d_6.Ok inf := ⟨⟨rfl, rfl, rfl, by decide +kernel, rfl, by decide +kernel, by decide +kernel⟩, by decide, by kernel_rfl, fun _ _ _ _ _ _ us hl => match us, hl with | [_], _ => rfl⟩
theorem ok_7 : d_7.Ok inf := ⟨⟨rfl, rfl, rfl, by decide +kernel, rfl, by decide +kernel, by decide +kernel⟩, by decide, by kernel_rfl, fun _ _ _ _ _ _ us hl => match us, hl with | [_, _, _], _ => rfl⟩
theorem ok_8 : d_8.Ok inf := ⟨⟨rfl, rfl, rfl, by decide +kernel, rfl, by decide +kernel, by decide +kernel⟩, by decide, by kernel_rfl, fun _ _ _ _ _ _ us hl => match us, hl with | [_], _ => rfl⟩
theorem ok_9 : d_9.Ok inf := ⟨⟨rfl, rfl, rfl, by decide +kernel, rfl, by decide +kernel, by decide +kernel⟩, by decide, by kernel_rfl, fun _ _ _ _ _ _ us hl => match us, hl with | [_], _ => rfl⟩
theorem ok_10 : d_10.Ok inf := ⟨⟨rfl, rfl, rfl, by decide +kernel, rfl, by decide +kernel, by decide +kernel⟩, by decide, by kernel_rfl, fun _ _ _ _ _ _ us hl => match us, hl with | [_], _ => rfl⟩
theorem ok_11 : d_11.Ok inf := ⟨⟨rfl, rfl, rfl, by decide +kernel, rfl, by decide +kernel, by decide +kernel⟩, by decide, by kernel_rfl, fun _ _ _ _ _ _ us hl => match us, hl with | [_], _ => rfl⟩
theorem ok_12 : d_12.Ok inf := ⟨⟨rfl, rfl, rfl, by decide +kernel, rfl, by decide +kernel, by decide +kernel⟩, by decide, by kernel_rfl, fun _ _ _ _ _ _ us hl => match us, hl with | [_, _], _ => rfl⟩
theorem ok_13 : d_13.Ok inf := ⟨⟨rfl, rfl, rfl, by decide +kernel, rfl, by decide +kernel, by decide +kernel⟩, by decide, by kernel_rfl, fun _ _ _ _ _ _ us hl => match us, hl with | [_, _], _ => rfl⟩
theorem ok_14 : d_14.Ok inf := ⟨⟨rfl, rfl, rfl, by decide +kernel, rfl, by decide +kernel, by decide +kernel⟩, by decide, by kernel_rfl, fun _ _ _ _ _ _ us hl => match us, hl with | [_, _], _ => rfl⟩
theorem ok_15 : d_15.Ok inf := ⟨⟨rfl, rfl, rfl, by decide +kernel, rfl, by decide +kernel, by decide +kernel⟩, by decide, by kernel_rfl, fun _ _ _ _ _ _ us hl => match us, hl with | [_], _ => rfl⟩
theorem ok_16 : d_16.Ok inf := ⟨⟨rfl, rfl, rfl, by decide +kernel, rfl, by decide +kernel, by decide +kernel⟩, by decide, by kernel_rfl, fun _ _ _ _ _ _ us hl => match us, hl with | [_, _, _], _ => rfl⟩
theorem ok_17 : d_17.Ok inf := ⟨⟨rfl, rfl, rfl, by decide +kernel, rfl, by decide +kernel, by decide +kernel⟩, by decide, by kernel_rfl, fun _ _ _ _ _ _ us hl => match us, hl with | [_, _, _, _], _ => rfl⟩
theorem ok_18 : d_18.Ok inf := ⟨⟨rfl, rfl, rfl, by decide +kernel, rfl, by decide +kernel, by decide +kernel⟩, by decide, by kernel_rfl, fun _ _ _ _ _ _ us hl => match us, hl with | [_], _ => rfl⟩
theorem ok_19 : d_19.Ok inf := ⟨⟨rfl, rfl, rfl, by decide +kernel, rfl, by decide +kernel, by decide +kernel⟩, by decide, by kernel_rfl, fun _ _ _ _ _ _ us hl => match us, hl with | [_], _ => rfl⟩
theorem ok_20 : d_20.Ok inf := ⟨⟨rfl, rfl, rfl, by decide +kernel, rfl, by decide +kernel, by decide +kernel⟩, by decide, by kernel_rfl, fun _ _ _ _ _ _ us hl => match us, hl with | [_], _ => rfl⟩
theorem oks : ∀ d ∈ inf.defs, d.Ok inf := by
  intro d hd
  have h : d ∈ dfz := hd
  simp only [dfz, List.mem_cons, List.not_mem_nil, or_false] at h
  rcases h with rfl | rfl | rfl | rfl | rfl | rfl | rfl | rfl | rfl | rfl | rfl | rfl | rfl | rfl | rfl | rfl | rfl | rfl | rfl | rfl | rfl
  · exact ok_0
  · exact ok_1
  · exact ok_2
  · exact ok_3
  · exact ok_4
  · exact ok_5
  · exact ok_6
  · exact ok_7
  · exact ok_8
  · exact ok_9
  · exact ok_10
  · exact ok_11
  · exact ok_12
  · exact ok_13
  · exact ok_14
  · exact ok_15
  · exact ok_16
  · exact ok_17
  · exact ok_18
  · exact ok_19
  · exact ok_20
theorem kwo : ∀ e ∈ inf.kw, KwOk inf e := by
  intro e he
  have h : e ∈ kwz := he
  simp only [kwz, List.mem_cons, List.not_mem_nil, or_false] at h
  rcases h with rfl
  · intro d hd
    obtain rfl : d_11 = d := Option.some.inj hd
    exact fun _ _ _ _ _ _ us ws l1 l2 => match us, l1, ws, l2 with | [], _, [_], _ => rfl
def cx (n : Nat) : Ctx := inf.pg.ctx (inf.pg.sem n)
theorem cx_fn (n : Nat) : (cx n).fn = inf.pg.sem n := rfl
@[simp] theorem io_0 (n : Nat) : (cx n).io 0 = [false] := rfl
theorem sm_0 (n : Nat) (as : List Sl) : inf.pg.sem (n + 1) 0 as = runF (cx n) ⟨[false], 1, 1, c_0⟩ as := rfl
@[simp] theorem io_1 (n : Nat) : (cx n).io 1 = [false, false, false] := rfl
theorem sm_1 (n : Nat) (as : List Sl) : inf.pg.sem (n + 1) 1 as = runF (cx n) ⟨[false, false, false], 3, 3, c_1⟩ as := rfl
@[simp] theorem io_2 (n : Nat) : (cx n).io 2 = [false, false] := rfl
theorem sm_2 (n : Nat) (as : List Sl) : inf.pg.sem (n + 1) 2 as = runF (cx n) ⟨[false, false], 2, 2, c_2⟩ as := rfl
@[simp] theorem io_3 (n : Nat) : (cx n).io 3 = [false] := rfl
theorem sm_3 (n : Nat) (as : List Sl) : inf.pg.sem (n + 1) 3 as = runF (cx n) ⟨[false], 1, 2, c_3⟩ as := rfl
@[simp] theorem io_4 (n : Nat) : (cx n).io 4 = [false, false] := rfl
theorem sm_4 (n : Nat) (as : List Sl) : inf.pg.sem (n + 1) 4 as = runF (cx n) ⟨[false, false], 2, 2, c_4⟩ as := rfl
@[simp] theorem io_5 (n : Nat) : (cx n).io 5 = [false] := rfl
theorem sm_5 (n : Nat) (as : List Sl) : inf.pg.sem (n + 1) 5 as = runF (cx n) ⟨[false], 1, 5, c_5⟩ as := rfl
@[simp] theorem io_6 (n : Nat) : (cx n).io 6 = [false] := rfl
theorem sm_6 (n : Nat) (as : List Sl) : inf.pg.sem (n + 1) 6 as = runF (cx n) ⟨[false], 1, 1, c_6⟩ as := rfl
@[simp] theorem io_7 (n : Nat) : (cx n).io 7 = [false, false, false] := rfl
theorem sm_7 (n : Nat) (as : List Sl) : inf.pg.sem (n + 1) 7 as = runF (cx n) ⟨[false, false, false], 3, 10, c_7⟩ as := rfl
@[simp] theorem io_8 (n : Nat) : (cx n).io 8 = [false] := rfl
theorem sm_8 (n : Nat) (as : List Sl) : inf.pg.sem (n + 1) 8 as = runF (cx n) ⟨[false], 1, 5, c_8⟩ as := rfl
@[simp] theorem io_9 (n : Nat) : (cx n).io 9 = [false] := rfl
theorem sm_9 (n : Nat) (as : List Sl) : inf.pg.sem (n + 1) 9 as = runF (cx n) ⟨[false], 1, 1, c_9⟩ as := rfl
@[simp] theorem io_10 (n : Nat) : (cx n).io 10 = [false] := rfl
theorem sm_10 (n : Nat) (as : List Sl) : inf.pg.sem (n + 1) 10 as = runF (cx n) ⟨[false], 1, 1, c_10⟩ as := rfl
@[simp] theorem io_11 (n : Nat) : (cx n).io 11 = [false] := rfl
theorem sm_11 (n : Nat) (as : List Sl) : inf.pg.sem (n + 1) 11 as = runF (cx n) ⟨[false], 1, 6, c_11⟩ as := rfl
@[simp] theorem io_12 (n : Nat) : (cx n).io 12 = [false, false] := rfl
theorem sm_12 (n : Nat) (as : List Sl) : inf.pg.sem (n + 1) 12 as = runF (cx n) ⟨[false, false], 2, 5, c_12⟩ as := rfl
@[simp] theorem io_13 (n : Nat) : (cx n).io 13 = [true, false] := rfl
theorem sm_13 (n : Nat) (as : List Sl) : inf.pg.sem (n + 1) 13 as = runF (cx n) ⟨[true, false], 2, 3, c_13⟩ as := rfl
@[simp] theorem io_14 (n : Nat) : (cx n).io 14 = [true, false] := rfl
theorem sm_14 (n : Nat) (as : List Sl) : inf.pg.sem (n + 1) 14 as = runF (cx n) ⟨[true, false], 2, 2, c_14⟩ as := rfl
@[simp] theorem io_15 (n : Nat) : (cx n).io 15 = [false] := rfl
theorem sm_15 (n : Nat) (as : List Sl) : inf.pg.sem (n + 1) 15 as = runF (cx n) ⟨[false], 1, 1, c_15⟩ as := rfl
@[simp] theorem io_16 (n : Nat) : (cx n).io 16 = [true, false, false] := rfl
theorem sm_16 (n : Nat) (as : List Sl) : inf.pg.sem (n + 1) 16 as = runF (cx n) ⟨[true, false, false], 3, 11, c_16⟩ as := rfl
@[simp] theorem io_17 (n : Nat) : (cx n).io 17 = [false, false, false, false] := rfl
theorem sm_17 (n : Nat) (as : List Sl) : inf.pg.sem (n + 1) 17 as = runF (cx n) ⟨[false, false, false, false], 4, 5, c_17⟩ as := rfl
@[simp] theorem io_18 (n : Nat) : (cx n).io 18 = [false] := rfl
theorem sm_18 (n : Nat) (as : List Sl) : inf.pg.sem (n + 1) 18 as = runF (cx n) ⟨[false], 1, 8, c_18⟩ as := rfl
@[simp] theorem io_19 (n : Nat) : (cx n).io 19 = [true] := rfl
theorem sm_19 (n : Nat) (as : List Sl) : inf.pg.sem (n + 1) 19 as = runF (cx n) ⟨[true], 1, 11, c_19⟩ as := rfl
@[simp] theorem io_20 (n : Nat) : (cx n).io 20 = [false] := rfl
theorem sm_20 (n : Nat) (as : List Sl) : inf.pg.sem (n + 1) 20 as = runF (cx n) ⟨[false], 1, 2, c_20⟩ as := rfl
@[simp] theorem cs_0 (n : Nat) : (cx n).cst 0 = .int (60) := rfl
@[simp] theorem cs_1 (n : Nat) : (cx n).cst 1 = .int (999) := rfl
@[simp] theorem cs_2 (n : Nat) : (cx n).cst 2 = .int (9) := rfl
@[simp] theorem cs_3 (n : Nat) : (cx n).cst 3 = .int (12) := rfl
@[simp] theorem cs_4 (n : Nat) : (cx n).cst 4 = .int (9999) := rfl
abbrev rowz : PySem.W.OpenRow := PySem.W.OpenLaw.row PySem.Challenge.rw_maywrite_k48_whole_failing_days_borne
abbrev hkz : PySem.W.Hook := He.hookD 4 inf.fa inf.fn
def obz (s : PySem.W.SharedT) : He.AlD := He.obsDG 4 inf.fa inf.fn (HandSHeadRun.getT s)
theorem obz_eq (s : PySem.W.SharedT) : obz s = hkz.obs s.abs := He.obsDG_eq (HandSHeadRun.getT_eq s)
def loosez : List PySem.Str := (["MailError", "InvalidDues", "is_whole", "is_number", "is_tuple_of", "MOST_DAYS", "MOST_HANDS", "MOST_FAILS", "MOST_SENDS", "MOST_NUMBER", "are_hands", "is_send", "are_dues", "check_dues", "is_late", "late_of", "is_in_time", "late_days", "bears_fails", "_law_well", "_law_dip", "_law_one", "_law_turns", "_law_dues", "_law_room", "_law_late_days", "_law_right"] : List PySem.Str)
theorem runz (w : World) : HandSHeadRun.RunEq rowz (PySem.W.view rowz.prog [31]) hkz obz 3000 loosez w := by
  intro os
  kernel_rfl
theorem toldz : ∀ (K : PySem.W.Frag) (h : Heap) (mg : Str → Option Value), K.In h → h.Ns mainGlobals mg → He.SaysD inf.fa inf.fn K → Told inf K mg := told_of (by decide +kernel)
end MP
namespace MP
theorem dip (n : Nat) (a b c many : Int) (h1 : 0 < many) (h2 : many < 1073741824) : ∃ r x y z : Int, 0 ≤ r ∧ r < many ∧ inf.pg.sem (n + 1) 13 [.ol true [.int a, .int b, .int c], .d (.int many)] = .ok (.d (.int r), [[.int x, .int y, .int z]]) := by
  by_cases h : 0 < a
  · refine ⟨a % many, a / many, b, c, Int.emod_nonneg _ (by omega), Int.emod_lt_of_pos _ h1, ?_⟩
    rw [sm_13]
    simp [evE, evT, evA, evO, evC_nil, evC_t, evC_f, evC_e, evP, evI, exC, Rs.bind_ok, Rs.bind_st, Rs.calm_ok, ofO_some, ofO_none, rd, tk, at0, at1, set0, set1, put, puts, asgT, asgTs, setAt, sem1, sem2, semSl, opInt, truth, isOl, outs, backs, endF, alB, runF, startE, items, pick, List.length_cons, List.length_nil, List.cons_append, List.nil_append, List.replicate, List.map, Nat.reduceSub, Nat.reduceAdd, Nat.reduceBEq, Nat.reduceEqDiff, Bool.and_true, Bool.true_and, if_true, if_false, beq_self_eq_true, decide_true, decide_false, reduceIte, Bool.false_eq_true, cx_fn, Option.map_some, Option.bind_some, c_13, atI, ixN, h, h1, h2]
  · refine ⟨((b * 48271 + 7919 * (c + 1) + 43) % 2147480009 / 157) % many, a, (b * 48271 + 7919 * (c + 1) + 43) % 2147480009, c + 1, Int.emod_nonneg _ (by omega), Int.emod_lt_of_pos _ h1, ?_⟩
    rw [sm_13]
    simp [evE, evT, evA, evO, evC_nil, evC_t, evC_f, evC_e, evP, evI, exC, Rs.bind_ok, Rs.bind_st, Rs.calm_ok, ofO_some, ofO_none, rd, tk, at0, at1, set0, set1, put, puts, asgT, asgTs, setAt, sem1, sem2, semSl, opInt, truth, isOl, outs, backs, endF, alB, runF, startE, items, pick, List.length_cons, List.length_nil, List.cons_append, List.nil_append, List.replicate, List.map, Nat.reduceSub, Nat.reduceAdd, Nat.reduceBEq, Nat.reduceEqDiff, Bool.and_true, Bool.true_and, if_true, if_false, beq_self_eq_true, decide_true, decide_false, reduceIte, Bool.false_eq_true, cx_fn, Option.map_some, Option.bind_some, c_13, atI, ixN, h, h1, h2, mulOk]
theorem one (n : Nat) (a b c : Int) (xs : List D) (h1 : 0 < xs.length) (h2 : xs.length < 1073741824) : ∃ v ∈ xs, ∃ x y z : Int, inf.pg.sem (n + 2) 14 [.ol true [.int a, .int b, .int c], .d (.lst xs)] = .ok (.d v, [[.int x, .int y, .int z]]) := by
  obtain ⟨r, x, y, z, r1, r2, e⟩ := dip n a b c xs.length (by omega) (by omega)
  have h3 : r.toNat < xs.length := by omega
  refine ⟨xs[r.toNat], List.getElem_mem h3, x, y, z, ?_⟩
  rw [sm_14]
  simp [evE, evT, evA, evO, evC_nil, evC_t, evC_f, evC_e, evP, evI, exC, Rs.bind_ok, Rs.bind_st, Rs.calm_ok, ofO_some, ofO_none, rd, tk, at0, at1, set0, set1, put, puts, asgT, asgTs, setAt, sem1, sem2, semSl, opInt, truth, isOl, outs, backs, endF, alB, runF, startE, items, pick, List.length_cons, List.length_nil, List.cons_append, List.nil_append, List.replicate, List.map, Nat.reduceSub, Nat.reduceAdd, Nat.reduceBEq, Nat.reduceEqDiff, Bool.and_true, Bool.true_and, if_true, if_false, beq_self_eq_true, decide_true, decide_false, reduceIte, Bool.false_eq_true, cx_fn, Option.map_some, Option.bind_some, c_14, e, backs, atI, ixN, r1, r2, h3]
theorem cut_map {α β : Type} (f : α → β) (xs : List α) (lo hi : Option Int) : cut (xs.map f) lo hi = (cut xs lo hi).map f := by
  simp [cut, List.map_drop, List.map_take]
theorem mix (n : Nat) (S : Sl) (k sp : Int) : ∀ (xs : List Int) (m : Int) (s4 : Sl), ∃ m' s4', loopF (bodyF (cx n) (.name 4) g_12_0) (xs.map D.int) [S, .d (.int k), .d (.int sp), .d (.int m), s4] = .ok (.nx, [S, .d (.int k), .d (.int sp), .d (.int m'), s4'])
  | [], m, s4 => ⟨m, s4, rfl⟩
  | x :: xs, m, s4 => by
    obtain ⟨m', s4', e⟩ := mix n S k sp xs ((m * 43013 + x % 2147480009 + 29) % 2147480009) (.d (.int x))
    refine ⟨m', s4', ?_⟩
    have b : bodyF (cx n) (.name 4) g_12_0 (.int x) [S, .d (.int k), .d (.int sp), .d (.int m), s4] = .ok (.nx, [S, .d (.int k), .d (.int sp), .d (.int ((m * 43013 + x % 2147480009 + 29) % 2147480009)), .d (.int x)]) := by
      simp [bodyF, evE, evT, evA, evO, evC_nil, evC_t, evC_f, evC_e, evP, evI, exC, Rs.bind_ok, Rs.bind_st, Rs.calm_ok, ofO_some, ofO_none, rd, tk, at0, at1, set0, set1, put, puts, asgT, asgTs, setAt, sem1, sem2, semSl, opInt, truth, isOl, outs, backs, endF, alB, runF, startE, items, pick, List.length_cons, List.length_nil, List.cons_append, List.nil_append, List.replicate, List.map, Nat.reduceSub, Nat.reduceAdd, Nat.reduceBEq, Nat.reduceEqDiff, Bool.and_true, Bool.true_and, if_true, if_false, beq_self_eq_true, decide_true, decide_false, reduceIte, Bool.false_eq_true, cx_fn, Option.map_some, Option.bind_some, g_12_0, mulOk]
    simp only [List.map_cons, loopF, b, Rs.bind_ok]
    exact e
theorem well (n : Nat) (ns : List Int) (k : Int) (hk : 0 ≤ k) : ∃ a b : Int, inf.pg.sem (n + 1) 12 [.d (.fz (ns.map .int)), .d (.int k)] = .ok (.nw [.int a, .int b, .int 0], []) := by
  have hs : ∃ sp : Int, (k < ns.length ∧ atI (ns.map D.int) k = some (.int sp)) ∨ (¬ k < ns.length ∧ 6607 * k + 389 = sp) := by
    by_cases h : k < ns.length
    · have h2 : k.toNat < ns.length := by omega
      refine ⟨ns[k.toNat], .inl ⟨h, ?_⟩⟩
      simp [atI, ixN, hk, h, h2]
    · exact ⟨_, .inr ⟨h, rfl⟩⟩
  obtain ⟨sp, es⟩ := hs
  have f : ∃ m' s4', exC (cx n) f_12_0 [.d (.fz (ns.map .int)), .d (.int k), .d (.int sp), .d (.int (80021 + 7001 * k)), .un] = .ok (.nx, [.d (.fz (ns.map .int)), .d (.int k), .d (.int sp), .d (.int m'), s4']) := by
    obtain ⟨m', s4', e⟩ := mix n (.d (.fz (ns.map .int))) k sp (cut ns none (some 7) ++ [sp]) (80021 + 7001 * k) .un
    refine ⟨m', s4', ?_⟩
    rw [f_12_0, for_eq]
    have hl : (cut ns none (some 7)).length + 1 ≤ line := by
      simp [cut, sIx, line]
      omega
    have w : evI (cx n) (.walk (.u2 (.add) (.sl (.var 0) (.omit) (.tr (.lit (.int 7)))) (.lst (.cons (.var 2) (.nil))))) [.d (.fz (ns.map .int)), .d (.int k), .d (.int sp), .d (.int (80021 + 7001 * k)), .un] = .ok ((cut ns none (some 7) ++ [sp]).map D.int, [.d (.fz (ns.map .int)), .d (.int k), .d (.int sp), .d (.int (80021 + 7001 * k)), .un]) := by
      have h1 : (1 : Nat) ≤ line := by decide
      simp [evE, evT, evA, evO, evC_nil, evC_t, evC_f, evC_e, evP, evI, exC, Rs.bind_ok, Rs.bind_st, Rs.calm_ok, ofO_some, ofO_none, rd, tk, at0, at1, set0, set1, put, puts, asgT, asgTs, setAt, sem1, sem2, semSl, opInt, truth, isOl, outs, backs, endF, alB, runF, startE, items, pick, List.length_cons, List.length_nil, List.cons_append, List.nil_append, List.replicate, List.map, Nat.reduceSub, Nat.reduceAdd, Nat.reduceBEq, Nat.reduceEqDiff, Bool.and_true, Bool.true_and, if_true, if_false, beq_self_eq_true, decide_true, decide_false, reduceIte, Bool.false_eq_true, cx_fn, Option.map_some, Option.bind_some, cut_map, hl, h1]
    rw [w]
    simp only [Rs.bind_ok]
    exact e
  obtain ⟨m', s4', ef⟩ := f
  have h3 : (3 : Nat) ≤ line := by decide
  by_cases c : sp < 0 ∨ 10 ^ 15 ≤ sp
  · refine ⟨if sp < 0 then -sp else sp, m', ?_⟩
    rw [sm_12]
    by_cases c1 : sp < 0
    · rcases es with ⟨h1, h2⟩ | ⟨h1, h2⟩ <;> simp [evE, evT, evA, evO, evC_nil, evC_t, evC_f, evC_e, evP, evI, exC, Rs.bind_ok, Rs.bind_st, Rs.calm_ok, ofO_some, ofO_none, rd, tk, at0, at1, set0, set1, put, puts, asgT, asgTs, setAt, sem1, sem2, semSl, opInt, truth, isOl, outs, backs, endF, alB, runF, startE, items, pick, List.length_cons, List.length_nil, List.cons_append, List.nil_append, List.replicate, List.map, Nat.reduceSub, Nat.reduceAdd, Nat.reduceBEq, Nat.reduceEqDiff, Bool.and_true, Bool.true_and, if_true, if_false, beq_self_eq_true, decide_true, decide_false, reduceIte, Bool.false_eq_true, cx_fn, Option.map_some, Option.bind_some, c_12, h1, h2, ef, mulOk, c1, h3]
    · have c2 : (1000000000000000 : Int) ≤ sp := by simpa using c.resolve_left c1
      rcases es with ⟨h1, h2⟩ | ⟨h1, h2⟩ <;> simp [evE, evT, evA, evO, evC_nil, evC_t, evC_f, evC_e, evP, evI, exC, Rs.bind_ok, Rs.bind_st, Rs.calm_ok, ofO_some, ofO_none, rd, tk, at0, at1, set0, set1, put, puts, asgT, asgTs, setAt, sem1, sem2, semSl, opInt, truth, isOl, outs, backs, endF, alB, runF, startE, items, pick, List.length_cons, List.length_nil, List.cons_append, List.nil_append, List.replicate, List.map, Nat.reduceSub, Nat.reduceAdd, Nat.reduceBEq, Nat.reduceEqDiff, Bool.and_true, Bool.true_and, if_true, if_false, beq_self_eq_true, decide_true, decide_false, reduceIte, Bool.false_eq_true, cx_fn, Option.map_some, Option.bind_some, c_12, h1, h2, ef, mulOk, c1, c2, h3]
  · refine ⟨0, m', ?_⟩
    have c1 : ¬ sp < 0 := fun z => c (.inl z)
    have c2 : ¬ (1000000000000000 : Int) ≤ sp := fun z => c (.inr (by simpa using z))
    rw [sm_12]
    rcases es with ⟨h1, h2⟩ | ⟨h1, h2⟩ <;> simp [evE, evT, evA, evO, evC_nil, evC_t, evC_f, evC_e, evP, evI, exC, Rs.bind_ok, Rs.bind_st, Rs.calm_ok, ofO_some, ofO_none, rd, tk, at0, at1, set0, set1, put, puts, asgT, asgTs, setAt, sem1, sem2, semSl, opInt, truth, isOl, outs, backs, endF, alB, runF, startE, items, pick, List.length_cons, List.length_nil, List.cons_append, List.nil_append, List.replicate, List.map, Nat.reduceSub, Nat.reduceAdd, Nat.reduceBEq, Nat.reduceEqDiff, Bool.and_true, Bool.true_and, if_true, if_false, beq_self_eq_true, decide_true, decide_false, reduceIte, Bool.false_eq_true, cx_fn, Option.map_some, Option.bind_some, c_12, h1, h2, ef, mulOk, c1, c2, h3]
theorem turns (n : Nat) (ns : List Int) : ∃ m : Int, m ≤ 3 ∧ inf.pg.sem (n + 1) 15 [.d (.fz (ns.map .int))] = .ok (.nw (rangeD 0 m), []) := by
  have hm : ∃ m q : Int, 0 ≤ m ∧ m ≤ 3 ∧ (if (3 : Int) < ns.length then (3 : Int) else ns.length) = q ∧ (if q > 2 then q else 2) = m := by
    refine ⟨_, _, ?_, ?_, rfl, rfl⟩
    · split <;> split <;> omega
    · split <;> split <;> omega
  obtain ⟨m, q, b1, b2, e1, e2⟩ := hm
  have ok : rngOk 0 m = true := by simp [rngOk]; omega
  have hl : (rangeD 0 m).length ≤ line := by simp [rangeD, line]; omega
  have s1 : sem2 .mn (.int ns.length) (.int 3) = some (.d (.int q)) := by rw [← e1]; rfl
  have s2 : sem2 .mx (.int 2) (.int q) = some (.d (.int m)) := by rw [← e2]; rfl
  refine ⟨m, b2, ?_⟩
  have len : sem1 .len (.fz (ns.map D.int)) = some (.d (.int ns.length)) := by
    show some (Op.d (.int ((ns.map D.int).length : Nat))) = _
    rw [List.length_map]
  rw [sm_15]
  have e : evE (cx n) (.u2 (.mx) (.lit (.int 2)) (.u2 (.mn) (.u1 (.len) (.var 0)) (.lit (.int 3)))) [.d (.fz (ns.map D.int))] = .ok (.d (.int m), [.d (.fz (ns.map D.int))]) := by
    simp only [evE, at0, Rs.bind_ok, rd, ofO_some, len, s1, s2]
  have e' : evE (cx n) (.lrg (.rng1 (.u2 (.mx) (.lit (.int 2)) (.u2 (.mn) (.u1 (.len) (.var 0)) (.lit (.int 3)))))) [.d (.fz (ns.map D.int))] = .ok (.nw (rangeD 0 m), [.d (.fz (ns.map D.int))]) := by
    rw [show evE (cx n) (.lrg (.rng1 (.u2 (.mx) (.lit (.int 2)) (.u2 (.mn) (.u1 (.len) (.var 0)) (.lit (.int 3)))))) [.d (.fz (ns.map D.int))] = (evI (cx n) (.rng1 (.u2 (.mx) (.lit (.int 2)) (.u2 (.mn) (.u1 (.len) (.var 0)) (.lit (.int 3))))) [.d (.fz (ns.map D.int))]).bind fun x => if x.1.length ≤ line then .ok (.nw x.1, x.2) else .st by simp only [evE]]
    rw [show evI (cx n) (.rng1 (.u2 (.mx) (.lit (.int 2)) (.u2 (.mn) (.u1 (.len) (.var 0)) (.lit (.int 3))))) [.d (.fz (ns.map D.int))] = (evE (cx n) (.u2 (.mx) (.lit (.int 2)) (.u2 (.mn) (.u1 (.len) (.var 0)) (.lit (.int 3)))) [.d (.fz (ns.map D.int))]).bind fun x => (ofO (opInt x.1)).bind fun i => if rngOk 0 i then .ok (rangeD 0 i, x.2) else .st by simp only [evI]]
    rw [e]
    simp only [Rs.bind_ok, opInt, ofO_some]
    rw [if_pos ok]
    simp only [Rs.bind_ok]
    rw [if_pos hl]
  have e2 : exC (cx n) c_15 (startE 1 [.d (.fz (ns.map D.int))]) = .ok (.rt (.nw (rangeD 0 m)), [.d (.fz (ns.map D.int))]) := by
    show exC (cx n) (.ret _) [.d (.fz (ns.map D.int))] = _
    simp only [exC, r_15_0]
    rw [e']
    rfl
  have hc : (alB [false] [Sl.d (.fz (ns.map D.int))] && ([Sl.d (.fz (ns.map D.int))].length == 1)) = true := rfl
  show (if (alB [false] [Sl.d (.fz (ns.map D.int))] && ([Sl.d (.fz (ns.map D.int))].length == 1)) = true then (exC (cx n) c_15 (startE 1 [.d (.fz (ns.map D.int))])).bind (endF [false]) else .st) = _
  rw [if_pos hc, e2]
  rfl
end MP
namespace MP
theorem whole (n : Nat) (i : Int) : inf.pg.sem (n + 1) 0 [.d (.int i)] = .ok (.d (.bl true), []) := by
  rw [sm_0]
  simp [evE, evT, evA, evO, evC_nil, evC_t, evC_f, evC_e, evP, evI, exC, Rs.bind_ok, Rs.bind_st, Rs.calm_ok, ofO_some, ofO_none, rd, tk, at0, at1, set0, set1, put, puts, asgT, asgTs, setAt, sem1, sem2, semSl, opInt, truth, isOl, outs, backs, endF, alB, runF, startE, items, pick, List.length_cons, List.length_nil, List.cons_append, List.nil_append, List.replicate, List.map, Nat.reduceSub, Nat.reduceAdd, Nat.reduceBEq, Nat.reduceEqDiff, Bool.and_true, Bool.true_and, if_true, if_false, beq_self_eq_true, decide_true, decide_false, reduceIte, Bool.false_eq_true, cx_fn, Option.map_some, Option.bind_some, c_0]
theorem number (n : Nat) (i a b : Int) (h1 : a ≤ i) (h2 : i ≤ b) : inf.pg.sem (n + 2) 1 [.d (.int i), .d (.int a), .d (.int b)] = .ok (.d (.bl true), []) := by
  rw [sm_1]
  have h3 : ¬ i < a := by omega
  simp [evE, evT, evA, evO, evC_nil, evC_t, evC_f, evC_e, evP, evI, exC, Rs.bind_ok, Rs.bind_st, Rs.calm_ok, ofO_some, ofO_none, rd, tk, at0, at1, set0, set1, put, puts, asgT, asgTs, setAt, sem1, sem2, semSl, opInt, truth, isOl, outs, backs, endF, alB, runF, startE, items, pick, List.length_cons, List.length_nil, List.cons_append, List.nil_append, List.replicate, List.map, Nat.reduceSub, Nat.reduceAdd, Nat.reduceBEq, Nat.reduceEqDiff, Bool.and_true, Bool.true_and, if_true, if_false, beq_self_eq_true, decide_true, decide_false, reduceIte, Bool.false_eq_true, cx_fn, Option.map_some, Option.bind_some, c_1, whole, h3, h2, isNon]
theorem tupleof (n : Nat) (xs : List D) (k : Int) (h : k = xs.length) : inf.pg.sem (n + 1) 2 [.d (.tup xs), .d (.int k)] = .ok (.d (.bl true), []) := by
  rw [sm_2]
  subst h
  simp [evE, evT, evA, evO, evC_nil, evC_t, evC_f, evC_e, evP, evI, exC, Rs.bind_ok, Rs.bind_st, Rs.calm_ok, ofO_some, ofO_none, rd, tk, at0, at1, set0, set1, put, puts, asgT, asgTs, setAt, sem1, sem2, semSl, opInt, truth, isOl, outs, backs, endF, alB, runF, startE, items, pick, List.length_cons, List.length_nil, List.cons_append, List.nil_append, List.replicate, List.map, Nat.reduceSub, Nat.reduceAdd, Nat.reduceBEq, Nat.reduceEqDiff, Bool.and_true, Bool.true_and, if_true, if_false, beq_self_eq_true, decide_true, decide_false, reduceIte, Bool.false_eq_true, cx_fn, Option.map_some, Option.bind_some, c_2, okEq_i, eqv_ii]
def tupI (d : List Int) : D := .tup (d.map .int)
theorem hands (n : Nat) (hs : List Int) (h1 : 1 ≤ hs.length) (h2 : hs.length ≤ 60) (h3 : ∀ x ∈ hs, 0 ≤ x ∧ x ≤ 999) : inf.pg.sem (n + 3) 3 [.d (tupI hs)] = .ok (.d (.bl true), []) := by
  have e : evE (cx (n + 2)) l_3_0 [.d (tupI hs), .un] = .ok (.nw (List.replicate hs.length (.bl true)), [.d (tupI hs), .un]) := by
    rw [l_3_0]
    have z := lc_fm (C := cx (n + 2)) (tg := .name 1) (it := .walk (.var 0)) (c := .omit) (elt := .call 1 (.cons (.var 1) (.cons (.lit (.int 0)) (.cons (.glo 1) (.nil))))) (vs := [1]) (ρ := [.d (tupI hs), .un]) (ρ1 := [.d (tupI hs), .un]) (xs := hs.map .int)
      (fun ρ => ∃ s, ρ = [.d (tupI hs), s]) (fun _ => some (.bl true)) (by simp [evE, evT, evA, evO, evC_nil, evC_t, evC_f, evC_e, evP, evI, exC, Rs.bind_ok, Rs.bind_st, Rs.calm_ok, ofO_some, ofO_none, rd, tk, at0, at1, set0, set1, put, puts, asgT, asgTs, setAt, sem1, sem2, semSl, opInt, truth, isOl, outs, backs, endF, alB, runF, startE, items, pick, List.length_cons, List.length_nil, List.cons_append, List.nil_append, List.replicate, List.map, Nat.reduceSub, Nat.reduceAdd, Nat.reduceBEq, Nat.reduceEqDiff, Bool.and_true, Bool.true_and, if_true, if_false, beq_self_eq_true, decide_true, decide_false, reduceIte, Bool.false_eq_true, cx_fn, Option.map_some, Option.bind_some, tupI]) rfl (by rw [List.length_map]; unfold line; omega) ⟨.un, rfl⟩ (fun x hx ρ ⟨s, e⟩ => by
        subst e
        obtain ⟨i, hi, rfl⟩ := List.mem_map.mp hx
        have e1 := number n i 0 999 (h3 i hi).1 (h3 i hi).2
        refine ⟨_, ?_, .d (.int i), rfl⟩
        simp [stepL, evE, evT, evA, evO, evC_nil, evC_t, evC_f, evC_e, evP, evI, exC, Rs.bind_ok, Rs.bind_st, Rs.calm_ok, ofO_some, ofO_none, rd, tk, at0, at1, set0, set1, put, puts, asgT, asgTs, setAt, sem1, sem2, semSl, opInt, truth, isOl, outs, backs, endF, alB, runF, startE, items, pick, List.length_cons, List.length_nil, List.cons_append, List.nil_append, List.replicate, List.map, Nat.reduceSub, Nat.reduceAdd, Nat.reduceBEq, Nat.reduceEqDiff, Bool.and_true, Bool.true_and, if_true, if_false, beq_self_eq_true, decide_true, decide_false, reduceIte, Bool.false_eq_true, cx_fn, Option.map_some, Option.bind_some, wipeE, e1, backs]) (fun ρ' ⟨s, e⟩ => by subst e; rfl)
    rw [z, fm_true, List.length_map]
  rw [sm_3]
  have g1 : (1 : Int) ≤ hs.length := by omega
  have g2 : (hs.length : Int) ≤ 60 := by omega
  simp only [tupI] at e ⊢
  simp [evE, evT, evA, evO, evC_nil, evC_t, evC_f, evC_e, evP, evI, exC, Rs.bind_ok, Rs.bind_st, Rs.calm_ok, ofO_some, ofO_none, rd, tk, at0, at1, set0, set1, put, puts, asgT, asgTs, setAt, sem1, sem2, semSl, opInt, truth, isOl, outs, backs, endF, alB, runF, startE, items, pick, List.length_cons, List.length_nil, List.cons_append, List.nil_append, List.replicate, List.map, Nat.reduceSub, Nat.reduceAdd, Nat.reduceBEq, Nat.reduceEqDiff, Bool.and_true, Bool.true_and, if_true, if_false, beq_self_eq_true, decide_true, decide_false, reduceIte, Bool.false_eq_true, cx_fn, Option.map_some, Option.bind_some, c_3, e, dBls_rep, g1, g2]
end MP
namespace MP
structure Snd where
  a : Int
  b : Int
  c : Int
def Snd.d (s : Snd) : D := .tup [.int s.a, .int s.b, .int s.c]
def Snd.ok (days : Int) (s : Snd) : Prop := 0 ≤ s.a ∧ s.a ≤ s.b ∧ s.b ≤ days - 1 ∧ 1 ≤ s.c ∧ s.c ≤ 9999
theorem send (n : Nat) (s : Snd) (days : Int) (h : s.ok days) : inf.pg.sem (n + 3) 4 [.d s.d, .d (.int days)] = .ok (.d (.bl true), []) := by
  obtain ⟨h1, h2, h3, h4, h5⟩ := h
  have e2 := tupleof (n + 1) [.int s.a, .int s.b, .int s.c] 3 rfl
  have n1 := number n s.a 0 (days - 1) h1 (by omega)
  have n2 := number n s.b s.a (days - 1) h2 h3
  have n3 := number n s.c 1 9999 h4 h5
  rw [sm_4]
  simp [evE, evT, evA, evO, evC_nil, evC_t, evC_f, evC_e, evP, evI, exC, Rs.bind_ok, Rs.bind_st, Rs.calm_ok, ofO_some, ofO_none, rd, tk, at0, at1, set0, set1, put, puts, asgT, asgTs, setAt, sem1, sem2, semSl, opInt, truth, isOl, outs, backs, endF, alB, runF, startE, items, pick, List.length_cons, List.length_nil, List.cons_append, List.nil_append, List.replicate, List.map, Nat.reduceSub, Nat.reduceAdd, Nat.reduceBEq, Nat.reduceEqDiff, Bool.and_true, Bool.true_and, if_true, if_false, beq_self_eq_true, decide_true, decide_false, reduceIte, Bool.false_eq_true, cx_fn, Option.map_some, Option.bind_some, c_4, Snd.d, e2, n1, n2, n3, backs, atI, ixN]
theorem plains_snd : ∀ ss : List Snd, D.plains (ss.map Snd.d) = true
  | [] => rfl
  | s :: ss => by
    simp only [List.map_cons, D.plains, Bool.and_eq_true]
    exact ⟨rfl, plains_snd ss⟩
theorem okEq_sends (ss : List Snd) : okEq (.lst (ss.map Snd.d)) = true := by
  have z : ∀ ss : List Snd, D.deps (ss.map Snd.d) ≤ 1 := fun ss => by
    induction ss with
    | nil => exact Nat.zero_le _
    | cons s ss ih =>
      simp only [List.map_cons, D.deps]
      have : (Snd.d s).dep = 1 := rfl
      omega
  have h : D.deps (ss.map Snd.d) + 1 ≤ 64 := by
    have := z ss
    omega
  simp only [okEq, D.plain, plains_snd, Bool.true_and, decide_eq_true_eq]
  exact h
mutual
theorem eqv_refl : ∀ x : D, D.plain x = true → D.eqv x x = true
  | .non, _ => rfl
  | .bl a, _ => by simp [D.eqv]
  | .int a, _ => by simp [D.eqv]
  | .str a, _ => by simp [D.eqv]
  | .lst xs, h => by
    simp only [D.plain] at h
    exact eqvs_refl xs h
  | .tup xs, h => by
    simp only [D.plain] at h
    exact eqvs_refl xs h
  | .rp x, h => by simp [D.plain] at h
  | .fn _ _, h => by simp [D.plain] at h
  | .fz _, h => by simp [D.plain] at h
theorem eqvs_refl : ∀ xs : List D, D.plains xs = true → D.eqvs xs xs = true
  | [], _ => rfl
  | x :: xs, h => by
    simp only [D.plains, Bool.and_eq_true] at h
    simp only [D.eqvs, Bool.and_eq_true]
    exact ⟨eqv_refl x h.1, eqvs_refl xs h.2⟩
end
theorem sortOk_sends (ss : List Snd) : sortOk (ss.map Snd.d) = true := by
  simp only [sortOk, Bool.and_eq_true, List.all_eq_true, Bool.or_eq_true, decide_eq_true_eq]
  refine ⟨⟨fun x hx => ?_, fun x hx => ?_⟩, fun x hx y hy => ?_, .inl fun x hx => ?_⟩
  · obtain ⟨s, _, rfl⟩ := List.mem_map.mp hx
    rfl
  · obtain ⟨s, _, rfl⟩ := List.mem_map.mp hx
    have : (Snd.d s).dep = 1 := rfl
    omega
  · obtain ⟨s, _, rfl⟩ := List.mem_map.mp hx
    obtain ⟨t, _, rfl⟩ := List.mem_map.mp hy
    rfl
  · obtain ⟨s, _, rfl⟩ := List.mem_map.mp hx
    rfl
structure Dues where
  hs : List Int
  f : Int
  ss : List Snd
def Dues.d (x : Dues) : D := .tup [tupI x.hs, .int x.f, .tup (x.ss.map Snd.d)]
structure Dues.Ok (x : Dues) : Prop where
  h1 : 1 ≤ x.hs.length
  h2 : x.hs.length ≤ 60
  h3 : ∀ i ∈ x.hs, 0 ≤ i ∧ i ≤ 999
  f1 : 0 ≤ x.f
  f2 : x.f ≤ 9
  s1 : x.ss.length ≤ 12
  s2 : ∀ s ∈ x.ss, s.ok x.hs.length
  s3 : (x.ss.map Snd.d).mergeSort leD = x.ss.map Snd.d
theorem dues (n : Nat) (x : Dues) (o : x.Ok) : inf.pg.sem (n + 4) 5 [.d x.d] = .ok (.d (.bl true), []) := by
  have e2 := tupleof (n + 2) [tupI x.hs, .int x.f, .tup (x.ss.map Snd.d)] 3 rfl
  have e3 := hands n x.hs o.h1 o.h2 o.h3
  have e1 := number (n + 1) x.f 0 9 o.f1 o.f2
  have e : evE (cx (n + 3)) l_5_0 [.d x.d, .d (tupI x.hs), .d (.int x.f), .d (.tup (x.ss.map Snd.d)), .un] = .ok (.nw (List.replicate x.ss.length (.bl true)), [.d x.d, .d (tupI x.hs), .d (.int x.f), .d (.tup (x.ss.map Snd.d)), .un]) := by
    rw [l_5_0]
    have z := lc_fm (C := cx (n + 3)) (tg := .name 4) (it := .walk (.var 3)) (c := .omit) (elt := .call 4 (.cons (.var 4) (.cons (.u1 (.len) (.var 1)) (.nil)))) (vs := [4]) (ρ := [.d x.d, .d (tupI x.hs), .d (.int x.f), .d (.tup (x.ss.map Snd.d)), .un]) (ρ1 := [.d x.d, .d (tupI x.hs), .d (.int x.f), .d (.tup (x.ss.map Snd.d)), .un]) (xs := x.ss.map Snd.d)
      (fun ρ => ∃ s, ρ = [.d x.d, .d (tupI x.hs), .d (.int x.f), .d (.tup (x.ss.map Snd.d)), s]) (fun _ => some (.bl true)) (by simp [evE, evT, evA, evO, evC_nil, evC_t, evC_f, evC_e, evP, evI, exC, Rs.bind_ok, Rs.bind_st, Rs.calm_ok, ofO_some, ofO_none, rd, tk, at0, at1, set0, set1, put, puts, asgT, asgTs, setAt, sem1, sem2, semSl, opInt, truth, isOl, outs, backs, endF, alB, runF, startE, items, pick, List.length_cons, List.length_nil, List.cons_append, List.nil_append, List.replicate, List.map, Nat.reduceSub, Nat.reduceAdd, Nat.reduceBEq, Nat.reduceEqDiff, Bool.and_true, Bool.true_and, if_true, if_false, beq_self_eq_true, decide_true, decide_false, reduceIte, Bool.false_eq_true, cx_fn, Option.map_some, Option.bind_some]) rfl (by rw [List.length_map]; unfold line; have := o.s1; omega) ⟨.un, rfl⟩ (fun y hy ρ ⟨s, e⟩ => by
        subst e
        obtain ⟨t, ht, rfl⟩ := List.mem_map.mp hy
        have e1 := send n t x.hs.length (o.s2 t ht)
        refine ⟨_, ?_, .d t.d, rfl⟩
        simp [stepL, evE, evT, evA, evO, evC_nil, evC_t, evC_f, evC_e, evP, evI, exC, Rs.bind_ok, Rs.bind_st, Rs.calm_ok, ofO_some, ofO_none, rd, tk, at0, at1, set0, set1, put, puts, asgT, asgTs, setAt, sem1, sem2, semSl, opInt, truth, isOl, outs, backs, endF, alB, runF, startE, items, pick, List.length_cons, List.length_nil, List.cons_append, List.nil_append, List.replicate, List.map, Nat.reduceSub, Nat.reduceAdd, Nat.reduceBEq, Nat.reduceEqDiff, Bool.and_true, Bool.true_and, if_true, if_false, beq_self_eq_true, decide_true, decide_false, reduceIte, Bool.false_eq_true, cx_fn, Option.map_some, Option.bind_some, wipeE, e1, backs, tupI]) (fun ρ' ⟨s, e⟩ => by subst e; rfl)
    rw [z, fm_true, List.length_map]
  have g : (x.ss.length : Int) ≤ 12 := by have := o.s1; omega
  have g' : ¬ (12 : Int) < x.ss.length := by omega
  have so := sortOk_sends x.ss
  have s3 := o.s3
  have q1 := okEq_sends x.ss
  have q2 : D.eqv (.lst (x.ss.map Snd.d)) (.lst (x.ss.map Snd.d)) = true := eqv_refl _ (by simp only [D.plain]; exact plains_snd x.ss)
  rw [sm_5]
  simp only [Dues.d] at e ⊢
  simp [evE, evT, evA, evO, evC_nil, evC_t, evC_f, evC_e, evP, evI, exC, Rs.bind_ok, Rs.bind_st, Rs.calm_ok, ofO_some, ofO_none, rd, tk, at0, at1, set0, set1, put, puts, asgT, asgTs, setAt, sem1, sem2, semSl, opInt, truth, isOl, outs, backs, endF, alB, runF, startE, items, pick, List.length_cons, List.length_nil, List.cons_append, List.nil_append, List.replicate, List.map, Nat.reduceSub, Nat.reduceAdd, Nat.reduceBEq, Nat.reduceEqDiff, Bool.and_true, Bool.true_and, if_true, if_false, beq_self_eq_true, decide_true, decide_false, reduceIte, Bool.false_eq_true, cx_fn, Option.map_some, Option.bind_some, c_5, e, e1, e2, e3, dBls_rep, g', so, s3, q1, q2, atI, ixN, backs]
theorem checkD (n : Nat) (x : Dues) (o : x.Ok) : inf.pg.sem (n + 5) 6 [.d x.d] = .ok (.d .non, []) := by
  have e := dues n x o
  rw [sm_6]
  simp [evE, evT, evA, evO, evC_nil, evC_t, evC_f, evC_e, evP, evI, exC, Rs.bind_ok, Rs.bind_st, Rs.calm_ok, ofO_some, ofO_none, rd, tk, at0, at1, set0, set1, put, puts, asgT, asgTs, setAt, sem1, sem2, semSl, opInt, truth, isOl, outs, backs, endF, alB, runF, startE, items, pick, List.length_cons, List.length_nil, List.cons_append, List.nil_append, List.replicate, List.map, Nat.reduceSub, Nat.reduceAdd, Nat.reduceBEq, Nat.reduceEqDiff, Bool.and_true, Bool.true_and, if_true, if_false, beq_self_eq_true, decide_true, decide_false, reduceIte, Bool.false_eq_true, cx_fn, Option.map_some, Option.bind_some, c_6, e, backs]
end MP
namespace MP
theorem dInts_map : ∀ d : List Int, dInts (d.map D.int) = some d
  | [] => rfl
  | x :: d => by simp [dInts, dInts_map d]
def srtI (l : List Int) : List Int := l.mergeSort fun a b => decide (a ≤ b)
theorem leD_int (a b : Int) : decide (a ≤ b) = leD (.int a) (.int b) := by
  simp only [leD, D.ky, lexI]
  by_cases h : b < a
  · have : ¬ a ≤ b := by omega
    simp [h, this]
  · have : a ≤ b := by omega
    simp [h, this]
theorem srt_int (l : List Int) : (l.map D.int).mergeSort leD = (srtI l).map D.int := by
  unfold srtI
  rw [List.map_mergeSort (s := leD) fun a _ b _ => leD_int a b]
theorem sortOk_ints (l : List Int) : sortOk (l.map D.int) = true := by
  simp only [sortOk, Bool.and_eq_true, List.all_eq_true, Bool.or_eq_true, decide_eq_true_eq]
  refine ⟨⟨fun x hx => ?_, fun x hx => ?_⟩, fun x hx y hy => ?_, .inr fun x hx => ?_⟩
  · obtain ⟨s, _, rfl⟩ := List.mem_map.mp hx
    rfl
  · obtain ⟨s, _, rfl⟩ := List.mem_map.mp hx
    have : (D.int s).dep = 0 := rfl
    omega
  · obtain ⟨s, _, rfl⟩ := List.mem_map.mp hx
    obtain ⟨t, _, rfl⟩ := List.mem_map.mp hy
    rfl
  · obtain ⟨s, _, rfl⟩ := List.mem_map.mp hx
    rfl
def wantI (ss : List Snd) (p q : Int) : Int := (ss.filterMap fun s => if p ≤ s.a ∧ s.b ≤ q then some s.c else none).sum
def restI (hs : List Int) (f p q : Int) : Int := (cut (srtI (cut hs (some p) (some (q + 1)))).reverse (some f) none).sum
def gW (p q : Int) : D → Option D
  | .tup [.int a, .int b, .int c] => if p ≤ a ∧ b ≤ q then some (.int c) else none
  | _ => none
theorem gW_map (p q : Int) : ∀ ss : List Snd, (ss.map Snd.d).filterMap (gW p q) = (ss.filterMap fun s => if p ≤ s.a ∧ s.b ≤ q then some s.c else none).map D.int
  | [] => rfl
  | s :: ss => by
    simp only [List.map_cons, List.filterMap_cons, gW_map p q ss]
    have e : gW p q s.d = if p ≤ s.a ∧ s.b ≤ q then some (.int s.c) else none := rfl
    rw [e]
    by_cases h : p ≤ s.a ∧ s.b ≤ q
    · simp [h]
    · simp [h]
theorem late (n : Nat) (x : Dues) (p q : Int) (hl : x.ss.length ≤ 12) : inf.pg.sem (n + 1) 7 [.d x.d, .d (.int p), .d (.int q)] = .ok (.d (.bl (decide (restI x.hs x.f p q < wantI x.ss p q))), []) := by
  have e : evE (cx n) l_7_0 [.d x.d, .d (.int p), .d (.int q), .d (tupI x.hs), .d (.int x.f), .d (.tup (x.ss.map Snd.d)), .un, .un, .un, .un] = .ok (.nw ((x.ss.filterMap fun s => if p ≤ s.a ∧ s.b ≤ q then some s.c else none).map D.int), [.d x.d, .d (.int p), .d (.int q), .d (tupI x.hs), .d (.int x.f), .d (.tup (x.ss.map Snd.d)), .un, .un, .un, .un]) := by
    rw [l_7_0, ← gW_map]
    refine lc_fm (fun ρ => ∃ s7 s8 s9, ρ = [.d x.d, .d (.int p), .d (.int q), .d (tupI x.hs), .d (.int x.f), .d (.tup (x.ss.map Snd.d)), .un, s7, s8, s9]) (gW p q) (by simp [evE, evT, evA, evO, evC_nil, evC_t, evC_f, evC_e, evP, evI, exC, Rs.bind_ok, Rs.bind_st, Rs.calm_ok, ofO_some, ofO_none, rd, tk, at0, at1, set0, set1, put, puts, asgT, asgTs, setAt, sem1, sem2, semSl, opInt, truth, isOl, outs, backs, endF, alB, runF, startE, items, pick, List.length_cons, List.length_nil, List.cons_append, List.nil_append, List.replicate, List.map, Nat.reduceSub, Nat.reduceAdd, Nat.reduceBEq, Nat.reduceEqDiff, Bool.and_true, Bool.true_and, if_true, if_false, beq_self_eq_true, decide_true, decide_false, reduceIte, Bool.false_eq_true, cx_fn, Option.map_some, Option.bind_some]) rfl (by rw [List.length_map]; unfold line; omega) ⟨.un, .un, .un, rfl⟩ (fun y hy ρ ⟨s7, s8, s9, e⟩ => ?_) (fun ρ' ⟨s7, s8, s9, e⟩ => by subst e; rfl)
    subst e
    obtain ⟨t, ht, rfl⟩ := List.mem_map.mp hy
    refine ⟨_, ?_, .d (.int t.a), .d (.int t.b), .d (.int t.c), rfl⟩
    have eg : gW p q t.d = if p ≤ t.a ∧ t.b ≤ q then some (.int t.c) else none := rfl
    rw [eg]
    by_cases c1 : p ≤ t.a
    · by_cases c2 : t.b ≤ q
      · simp [stepL, evE, evT, evA, evO, evC_nil, evC_t, evC_f, evC_e, evP, evI, exC, Rs.bind_ok, Rs.bind_st, Rs.calm_ok, ofO_some, ofO_none, rd, tk, at0, at1, set0, set1, put, puts, asgT, asgTs, setAt, sem1, sem2, semSl, opInt, truth, isOl, outs, backs, endF, alB, runF, startE, items, pick, List.length_cons, List.length_nil, List.cons_append, List.nil_append, List.replicate, List.map, Nat.reduceSub, Nat.reduceAdd, Nat.reduceBEq, Nat.reduceEqDiff, Bool.and_true, Bool.true_and, if_true, if_false, beq_self_eq_true, decide_true, decide_false, reduceIte, Bool.false_eq_true, cx_fn, Option.map_some, Option.bind_some, wipeE, Snd.d, c1, c2]
      · simp [stepL, evE, evT, evA, evO, evC_nil, evC_t, evC_f, evC_e, evP, evI, exC, Rs.bind_ok, Rs.bind_st, Rs.calm_ok, ofO_some, ofO_none, rd, tk, at0, at1, set0, set1, put, puts, asgT, asgTs, setAt, sem1, sem2, semSl, opInt, truth, isOl, outs, backs, endF, alB, runF, startE, items, pick, List.length_cons, List.length_nil, List.cons_append, List.nil_append, List.replicate, List.map, Nat.reduceSub, Nat.reduceAdd, Nat.reduceBEq, Nat.reduceEqDiff, Bool.and_true, Bool.true_and, if_true, if_false, beq_self_eq_true, decide_true, decide_false, reduceIte, Bool.false_eq_true, cx_fn, Option.map_some, Option.bind_some, wipeE, Snd.d, c1, c2]
    · simp [stepL, evE, evT, evA, evO, evC_nil, evC_t, evC_f, evC_e, evP, evI, exC, Rs.bind_ok, Rs.bind_st, Rs.calm_ok, ofO_some, ofO_none, rd, tk, at0, at1, set0, set1, put, puts, asgT, asgTs, setAt, sem1, sem2, semSl, opInt, truth, isOl, outs, backs, endF, alB, runF, startE, items, pick, List.length_cons, List.length_nil, List.cons_append, List.nil_append, List.replicate, List.map, Nat.reduceSub, Nat.reduceAdd, Nat.reduceBEq, Nat.reduceEqDiff, Bool.and_true, Bool.true_and, if_true, if_false, beq_self_eq_true, decide_true, decide_false, reduceIte, Bool.false_eq_true, cx_fn, Option.map_some, Option.bind_some, wipeE, Snd.d, c1]
  rw [sm_7]
  simp only [Dues.d, tupI] at e ⊢
  simp [evE, evT, evA, evO, evC_nil, evC_t, evC_f, evC_e, evP, evI, exC, Rs.bind_ok, Rs.bind_st, Rs.calm_ok, ofO_some, ofO_none, rd, tk, at0, at1, set0, set1, put, puts, asgT, asgTs, setAt, sem1, sem2, semSl, opInt, truth, isOl, outs, backs, endF, alB, runF, startE, items, pick, List.length_cons, List.length_nil, List.cons_append, List.nil_append, List.replicate, List.map, Nat.reduceSub, Nat.reduceAdd, Nat.reduceBEq, Nat.reduceEqDiff, Bool.and_true, Bool.true_and, if_true, if_false, beq_self_eq_true, decide_true, decide_false, reduceIte, Bool.false_eq_true, cx_fn, Option.map_some, Option.bind_some, c_7, e, dInts_map, cut_map, sortOk_ints, srt_int, ← List.map_reverse, restI, wantI]
  first
    | rfl
    | exact decide_eq_decide.mpr Iff.rfl
    | congr
def roomI (hs : List Int) (f p q : Int) : Int := (cut (srtI (cut hs (some p) (some (q + 1)))) none (some (if ((srtI (cut hs (some p) (some (q + 1)))).length : Int) - f > 0 then ((srtI (cut hs (some p) (some (q + 1)))).length : Int) - f else 0))).sum
theorem room (n : Nat) (hs : List Int) (p q f : Int) : inf.pg.sem (n + 1) 17 [.d (tupI hs), .d (.int p), .d (.int q), .d (.int f)] = .ok (.d (.int (roomI hs f p q)), []) := by
  rw [sm_17]
  simp [evE, evT, evA, evO, evC_nil, evC_t, evC_f, evC_e, evP, evI, exC, Rs.bind_ok, Rs.bind_st, Rs.calm_ok, ofO_some, ofO_none, rd, tk, at0, at1, set0, set1, put, puts, asgT, asgTs, setAt, sem1, sem2, semSl, opInt, truth, isOl, outs, backs, endF, alB, runF, startE, items, pick, List.length_cons, List.length_nil, List.cons_append, List.nil_append, List.replicate, List.map, Nat.reduceSub, Nat.reduceAdd, Nat.reduceBEq, Nat.reduceEqDiff, Bool.and_true, Bool.true_and, if_true, if_false, beq_self_eq_true, decide_true, decide_false, reduceIte, Bool.false_eq_true, cx_fn, Option.map_some, Option.bind_some, c_17, tupI, dInts_map, cut_map, sortOk_ints, srt_int, roomI]
theorem room_rest (hs : List Int) (f p q : Int) (h : 0 ≤ f) : roomI hs f p q = restI hs f p q := by
  unfold roomI restI
  generalize srtI (cut hs (some p) (some (q + 1))) = l
  have e1 : cut l none (some (if (l.length : Int) - f > 0 then (l.length : Int) - f else 0)) = l.take (l.length - f.toNat) := by
    simp only [cut, sIx, List.drop_zero, Nat.sub_zero]
    congr 1
    split <;> split <;> omega
  have e2 : cut l.reverse (some f) none = l.reverse.drop f.toNat := by
    simp only [cut, sIx, List.length_reverse]
    have h2 : ¬ f < 0 := by omega
    rw [if_neg h2]
    by_cases c : f.toNat ≤ l.length
    · rw [Nat.min_eq_left c]
      exact List.take_of_length_le (by simp)
    · rw [Nat.min_eq_right (by omega)]
      rw [List.drop_eq_nil_of_le (show l.reverse.length ≤ l.length by simp), List.drop_eq_nil_of_le (by simp; omega)]
      simp
  rw [e1, e2, List.drop_reverse, List.sum_reverse]
end MP
namespace MP
def lateB (x : Dues) (p q : Int) : Bool := decide (restI x.hs x.f p q < wantI x.ss p q)
def gL (x : Dues) (p : Int) : D → Option D
  | .int q => if lateB x p q then some (.tup [.int p, .int q]) else none
  | _ => none
def fL (x : Dues) (R : List D) : D → List D
  | .int p => (cut R (some p) none).filterMap (gL x p)
  | _ => []
def foundL (x : Dues) : List D := (rangeD 0 x.hs.length).flatMap (fL x (rangeD 0 x.hs.length))
def isPr (y : D) : Prop := ∃ p q : Int, y = .tup [.int p, .int q]
theorem found_pairs (x : Dues) : ∀ y ∈ foundL x, isPr y := by
  intro y hy
  unfold foundL at hy
  obtain ⟨r, _, h⟩ := List.mem_flatMap.mp hy
  cases r with
  | int p =>
    obtain ⟨u, _, h2⟩ := List.mem_filterMap.mp h
    cases u with
    | int q =>
      simp only [gL] at h2
      split at h2
      · cases h2
        exact ⟨p, q, rfl⟩
      · cases h2
    | _ => simp [gL] at h2
  | _ => simp [fL] at h
theorem okEq_pairs (l : List D) (h : ∀ y ∈ l, isPr y) : okEq (.lst l) = true := by
  have z : ∀ l : List D, (∀ y ∈ l, isPr y) → D.plains l = true ∧ D.deps l ≤ 1 := fun l => by
    induction l with
    | nil => exact fun _ => ⟨rfl, Nat.zero_le _⟩
    | cons y l ih =>
      intro h
      obtain ⟨a, b⟩ := ih fun z hz => h z (List.mem_cons_of_mem _ hz)
      obtain ⟨p, q, rfl⟩ := h y List.mem_cons_self
      refine ⟨?_, ?_⟩
      · simp only [D.plains, Bool.and_eq_true]
        exact ⟨rfl, a⟩
      · simp only [D.deps]
        have : D.dep (.tup [.int p, .int q]) = 1 := rfl
        omega
  obtain ⟨a, b⟩ := z l h
  have h : D.deps l + 1 ≤ 64 := by omega
  simp only [okEq, D.plain, a, Bool.true_and, decide_eq_true_eq]
  exact h
theorem found_ok (n : Nat) (x : Dues) (h60 : x.hs.length ≤ 60) (hl : x.ss.length ≤ 12) : evE (cx (n + 1)) l_8_0 [.d x.d, .ol false (rangeD 0 x.hs.length), .un, .un, .un] = .ok (.nw (foundL x), [.d x.d, .d (.lst (rangeD 0 x.hs.length)), .un, .un, .un]) := by
  have ok : rngOk 0 x.hs.length = true := by simp [rngOk]; omega
  have rl : (rangeD 0 x.hs.length).length = x.hs.length := by simp [rangeD]
  have e : ∀ s1 : Sl, (s1 = .ol false (rangeD 0 x.hs.length)) → evE (cx (n + 1)) l_8_0 [.d x.d, s1, .un, .un, .un] = .ok (.nw (foundL x), [.d x.d, .d (.lst (rangeD 0 x.hs.length)), .un, .un, .un]) := fun s1 hs1 => by
    subst hs1
    generalize hR : rangeD 0 x.hs.length = R at *
    have lR : R.length ≤ 60 := by omega
    rw [l_8_0]
    have ef : foundL x = R.flatMap (fL x R) := by unfold foundL; rw [hR]
    rw [ef]
    refine lc2_fm (fun ρ => ∃ s3 s4, ρ = [.d x.d, .d (.lst R), .un, s3, s4]) (fL x R) (by simp [evE, evT, evA, evO, evC_nil, evC_t, evC_f, evC_e, evP, evI, exC, Rs.bind_ok, Rs.bind_st, Rs.calm_ok, ofO_some, ofO_none, rd, tk, at0, at1, set0, set1, put, puts, asgT, asgTs, setAt, sem1, sem2, semSl, opInt, truth, isOl, outs, backs, endF, alB, runF, startE, items, pick, List.length_cons, List.length_nil, List.cons_append, List.nil_append, List.replicate, List.map, Nat.reduceSub, Nat.reduceAdd, Nat.reduceBEq, Nat.reduceEqDiff, Bool.and_true, Bool.true_and, if_true, if_false, beq_self_eq_true, decide_true, decide_false, reduceIte, Bool.false_eq_true, cx_fn, Option.map_some, Option.bind_some]) rfl ?_ ⟨.un, .un, rfl⟩ (fun y hy ρ ⟨s3, s4, e⟩ => ?_) (fun ρ' ⟨s3, s4, e⟩ => by subst e; rfl)
    · refine Nat.le_trans (flat_le (m := 60) R fun y hy => ?_) (Nat.le_trans (Nat.mul_le_mul_right 60 lR) (by unfold line; omega))
      cases y with
      | int p =>
        exact Nat.le_trans (List.length_filterMap_le ..) (Nat.le_trans (cut_len ..) lR)
      | _ => exact Nat.zero_le _
    · subst e
      rw [← hR] at hy
      simp only [rangeD, List.mem_map] at hy
      obtain ⟨j, _, rfl⟩ := hy
      generalize (0 : Int) + (j : Int) = p
      obtain ⟨ρ', e2, s4', rfl⟩ := mapC_fm (step := stepL (cx (n + 1)) (.name 4) (.tr (.call 7 (.cons (.var 0) (.cons (.var 3) (.cons (.var 4) (.nil)))))) (.tup (.cons (.var 3) (.cons (.var 4) (.nil)))) [4]) (fun ρ => ∃ s, ρ = [.d x.d, .d (.lst R), .un, .d (.int p), s]) (gL x p) (cut R (some p) none) [.d x.d, .d (.lst R), .un, .d (.int p), .un] (fun y hy ρ ⟨s, e⟩ => by
        subst e
        have hy' : y ∈ R := by
          unfold cut at hy
          exact List.mem_of_mem_drop (List.mem_of_mem_take hy)
        rw [← hR] at hy'
        simp only [rangeD, List.mem_map] at hy'
        obtain ⟨i, _, rfl⟩ := hy'
        generalize (0 : Int) + (i : Int) = q
        refine ⟨_, ?_, .d (.int q), rfl⟩
        have el := late n x p q hl
        have b2 : (2 : Nat) ≤ line := by unfold line; omega
        have eg : gL x p (.int q) = if lateB x p q then some (.tup [.int p, .int q]) else none := rfl
        rw [eg]
        cases hb : lateB x p q with
        | true =>
          have hb' : decide (restI x.hs x.f p q < wantI x.ss p q) = true := hb
          rw [hb'] at el
          simp [stepL, evE, evT, evA, evO, evC_nil, evC_t, evC_f, evC_e, evP, evI, exC, Rs.bind_ok, Rs.bind_st, Rs.calm_ok, ofO_some, ofO_none, rd, tk, at0, at1, set0, set1, put, puts, asgT, asgTs, setAt, sem1, sem2, semSl, opInt, truth, isOl, outs, backs, endF, alB, runF, startE, items, pick, List.length_cons, List.length_nil, List.cons_append, List.nil_append, List.replicate, List.map, Nat.reduceSub, Nat.reduceAdd, Nat.reduceBEq, Nat.reduceEqDiff, Bool.and_true, Bool.true_and, if_true, if_false, beq_self_eq_true, decide_true, decide_false, reduceIte, Bool.false_eq_true, cx_fn, Option.map_some, Option.bind_some, wipeE, el, backs, b2]
        | false =>
          have hb' : decide (restI x.hs x.f p q < wantI x.ss p q) = false := hb
          rw [hb'] at el
          simp [stepL, evE, evT, evA, evO, evC_nil, evC_t, evC_f, evC_e, evP, evI, exC, Rs.bind_ok, Rs.bind_st, Rs.calm_ok, ofO_some, ofO_none, rd, tk, at0, at1, set0, set1, put, puts, asgT, asgTs, setAt, sem1, sem2, semSl, opInt, truth, isOl, outs, backs, endF, alB, runF, startE, items, pick, List.length_cons, List.length_nil, List.cons_append, List.nil_append, List.replicate, List.map, Nat.reduceSub, Nat.reduceAdd, Nat.reduceBEq, Nat.reduceEqDiff, Bool.and_true, Bool.true_and, if_true, if_false, beq_self_eq_true, decide_true, decide_false, reduceIte, Bool.false_eq_true, cx_fn, Option.map_some, Option.bind_some, wipeE, el, backs, b2]) ⟨.un, rfl⟩
      refine ⟨[.d x.d, .d (.lst R), .un, .d (.int p), .un], ?_, .d (.int p), .un, rfl⟩
      simp only [stepM, evE, evT, evA, evO, evC_nil, evC_t, evC_f, evC_e, evP, evI, exC, Rs.bind_ok, Rs.bind_st, Rs.calm_ok, ofO_some, ofO_none, rd, tk, at0, at1, set0, set1, put, puts, asgT, asgTs, setAt, sem1, sem2, semSl, opInt, truth, isOl, outs, backs, endF, alB, runF, startE, items, pick, List.length_cons, List.length_nil, List.cons_append, List.nil_append, List.replicate, List.map, Nat.reduceSub, Nat.reduceAdd, Nat.reduceBEq, Nat.reduceEqDiff, Bool.and_true, Bool.true_and, if_true, if_false, beq_self_eq_true, decide_true, decide_false, reduceIte, Bool.false_eq_true, cx_fn, Option.map_some, Option.bind_some, wipeE]
      rw [e2]
      rfl
  exact e _ rfl
theorem lateof (n : Nat) (x : Dues) (h60 : x.hs.length ≤ 60) (hl : x.ss.length ≤ 12) : inf.pg.sem (n + 2) 8 [.d x.d] = .ok (.d ((foundL x).headD .non), []) := by
  have ok : rngOk 0 x.hs.length = true := by simp [rngOk]; omega
  have rl : (rangeD 0 x.hs.length).length = x.hs.length := by simp [rangeD]
  have e' := found_ok n x h60 hl
  have q0 := okEq_pairs _ (found_pairs x)
  have q1 : okEq (.lst []) = true := rfl
  have hR : (rangeD 0 x.hs.length).length ≤ line := by rw [rl]; unfold line; omega
  have er : evE (cx (n + 1)) r_8_0 [.d x.d, .un, .un, .un, .un] = .ok (.nw (rangeD 0 x.hs.length), [.d x.d, .un, .un, .un, .un]) := by
    rw [r_8_0]
    refine lrg1_eq ?_ ok hR
    simp [evE, evT, evA, evO, evC_nil, evC_t, evC_f, evC_e, evP, evI, exC, Rs.bind_ok, Rs.bind_st, Rs.calm_ok, ofO_some, ofO_none, rd, tk, at0, at1, set0, set1, put, puts, asgT, asgTs, setAt, sem1, sem2, semSl, opInt, truth, isOl, outs, backs, endF, alB, runF, startE, items, pick, List.length_cons, List.length_nil, List.cons_append, List.nil_append, List.replicate, List.map, Nat.reduceSub, Nat.reduceAdd, Nat.reduceBEq, Nat.reduceEqDiff, Bool.and_true, Bool.true_and, if_true, if_false, beq_self_eq_true, decide_true, decide_false, reduceIte, Bool.false_eq_true, cx_fn, Option.map_some, Option.bind_some, Dues.d, tupI, atI, ixN]
  have z0 : (([] : List D).length ≤ line) = True := eq_true (Nat.zero_le _)
  generalize rangeD 0 x.hs.length = R at *
  generalize foundL x = fl at *
  rw [sm_8]
  cases fl with
  | nil =>
    have q2 : D.eqv (.lst []) (.lst []) = true := rfl
    simp [evE, evT, evA, evO, evC_nil, evC_t, evC_f, evC_e, evP, evI, exC, Rs.bind_ok, Rs.bind_st, Rs.calm_ok, ofO_some, ofO_none, rd, tk, at0, at1, set0, set1, put, puts, asgT, asgTs, setAt, sem1, sem2, semSl, opInt, truth, isOl, outs, backs, endF, alB, runF, startE, items, pick, List.length_cons, List.length_nil, List.cons_append, List.nil_append, List.replicate, List.map, Nat.reduceSub, Nat.reduceAdd, Nat.reduceBEq, Nat.reduceEqDiff, Bool.and_true, Bool.true_and, if_true, if_false, beq_self_eq_true, decide_true, decide_false, reduceIte, Bool.false_eq_true, cx_fn, Option.map_some, Option.bind_some, c_8, er, e', atI, ixN, q1, q2]
  | cons y ys =>
    have q2 : D.eqv (.lst (y :: ys)) (.lst []) = false := rfl
    simp [evE, evT, evA, evO, evC_nil, evC_t, evC_f, evC_e, evP, evI, exC, Rs.bind_ok, Rs.bind_st, Rs.calm_ok, ofO_some, ofO_none, rd, tk, at0, at1, set0, set1, put, puts, asgT, asgTs, setAt, sem1, sem2, semSl, opInt, truth, isOl, outs, backs, endF, alB, runF, startE, items, pick, List.length_cons, List.length_nil, List.cons_append, List.nil_append, List.replicate, List.map, Nat.reduceSub, Nat.reduceAdd, Nat.reduceBEq, Nat.reduceEqDiff, Bool.and_true, Bool.true_and, if_true, if_false, beq_self_eq_true, decide_true, decide_false, reduceIte, Bool.false_eq_true, cx_fn, Option.map_some, Option.bind_some, c_8, er, e', atI, ixN, q0, q1, q2]
end MP
namespace MP
theorem srtI_perm (l : List Int) : (srtI l).Perm l := List.mergeSort_perm ..
theorem srtI_sorted (l : List Int) : (srtI l).Pairwise (fun a b => a ≤ b) := by
  have h := List.pairwise_mergeSort (le := fun a b : Int => decide (a ≤ b)) (fun a b c h1 h2 => by simp at *; omega) (fun a b => by simp; omega) l
  exact h.imp fun h => by simpa using h
theorem srtI_map (g : Int → Int) (hg : ∀ a b, a ≤ b → g a ≤ g b) (l : List Int) : srtI (l.map g) = (srtI l).map g := by
  refine List.Perm.eq_of_pairwise (le := fun a b : Int => a ≤ b) (fun a b _ _ h1 h2 => by omega) (srtI_sorted _) ?_ ((srtI_perm _).trans ((srtI_perm l).map g).symm)
  rw [List.pairwise_map]
  exact (srtI_sorted l).imp fun h => hg _ _ h
theorem sum_nonneg : ∀ l : List Int, (∀ x ∈ l, 0 ≤ x) → 0 ≤ l.sum
  | [], _ => by simp
  | x :: l, h => by
    have h1 := h x List.mem_cons_self
    have h2 := sum_nonneg l fun y hy => h y (List.mem_cons_of_mem _ hy)
    rw [List.sum_cons]; omega
theorem sum_map_le (g : Int → Int) : ∀ l : List Int, (∀ x ∈ l, x ≤ g x) → l.sum ≤ (l.map g).sum
  | [], _ => by simp
  | x :: l, h => by
    have h1 := h x List.mem_cons_self
    have h2 := sum_map_le g l fun y hy => h y (List.mem_cons_of_mem _ hy)
    rw [List.map_cons, List.sum_cons, List.sum_cons]; omega
theorem cut_mem {α : Type} {xs : List α} {lo hi : Option Int} {x : α} (h : x ∈ cut xs lo hi) : x ∈ xs := List.mem_of_mem_drop (List.mem_of_mem_take h)
theorem cut_from {α : Type} (xs : List α) (f : Int) (h : 0 ≤ f) : cut xs (some f) none = xs.drop f.toNat := by
  simp only [cut, sIx]
  rw [if_neg (by omega)]
  by_cases c : f.toNat ≤ xs.length
  · rw [Nat.min_eq_left c]
    exact List.take_of_length_le (by simp)
  · rw [Nat.min_eq_right (by omega), List.drop_eq_nil_of_le (Nat.le_refl _), List.drop_eq_nil_of_le (by omega)]
    simp
theorem rest_nonneg (hs : List Int) (f p q : Int) (h : ∀ x ∈ hs, 0 ≤ x) : 0 ≤ restI hs f p q := by
  refine sum_nonneg _ fun x hx => ?_
  have h1 := cut_mem hx
  rw [List.mem_reverse] at h1
  exact h x (cut_mem ((srtI_perm _).mem_iff.mp h1))
theorem drop_sum : ∀ (a : Nat) (l : List Int), (∀ x ∈ l, 0 ≤ x) → (l.drop (a + 1)).sum ≤ (l.drop a).sum
  | 0, [], _ => by simp
  | 0, x :: l, h => by
    have := h x List.mem_cons_self
    simp; omega
  | a + 1, [], _ => by simp
  | a + 1, x :: l, h => by
    simp only [List.drop_succ_cons]
    exact drop_sum a l fun y hy => h y (List.mem_cons_of_mem _ hy)
theorem rest_fails (hs : List Int) (f p q : Int) (h : ∀ x ∈ hs, 0 ≤ x) (hf : 0 ≤ f) : restI hs (f + 1) p q ≤ restI hs f p q := by
  unfold restI
  rw [cut_from _ _ hf, cut_from _ _ (by omega), show (f + 1).toNat = f.toNat + 1 by omega]
  refine drop_sum _ _ fun x hx => ?_
  rw [List.mem_reverse] at hx
  exact h x (cut_mem ((srtI_perm _).mem_iff.mp hx))
theorem rest_hands (g : Int → Int) (hg : ∀ a b, a ≤ b → g a ≤ g b) (hs : List Int) (f p q : Int) (h : ∀ x ∈ hs, x ≤ g x) : restI hs f p q ≤ restI (hs.map g) f p q := by
  unfold restI
  rw [cut_map, srtI_map g hg, ← List.map_reverse, cut_map]
  refine sum_map_le g _ fun x hx => ?_
  have h1 := cut_mem hx
  rw [List.mem_reverse] at h1
  exact h x (cut_mem ((srtI_perm _).mem_iff.mp h1))
theorem want_nil (p q : Int) : wantI [] p q = 0 := rfl
theorem want_tail (s : Snd) (ss : List Snd) (p q : Int) (h : 0 ≤ s.c) : wantI ss p q ≤ wantI (s :: ss) p q := by
  unfold wantI
  rw [List.filterMap_cons]
  by_cases c : p ≤ s.a ∧ s.b ≤ q
  · simp only [if_pos c, List.sum_cons]; omega
  · simp only [if_neg c]; omega
/-! the order of data -/
theorem lexI_irrefl : ∀ a, lexI a a = false
  | [] => rfl
  | x :: r => by simp [lexI, lexI_irrefl r]
theorem lexI_tot : ∀ a b, lexI a b = false → lexI b a = false → a = b
  | [], [], _, _ => rfl
  | [], _ :: _, h, _ => by simp [lexI] at h
  | _ :: _, [], _, h => by simp [lexI] at h
  | x :: r, y :: t, h1, h2 => by
    simp only [lexI, Bool.or_eq_false_iff, Bool.and_eq_false_iff, decide_eq_false_iff_not, Bool.not_eq_false', decide_eq_true_eq] at h1 h2
    have e : x = y := by omega
    subst e
    rw [lexI_tot r t (h1.2.resolve_left (by omega)) (h2.2.resolve_left (by omega))]
theorem lexI_asym : ∀ a b, lexI a b = true → lexI b a = false
  | [], [], h => by simp [lexI] at h
  | [], _ :: _, _ => by simp [lexI]
  | _ :: _, [], h => by simp [lexI] at h
  | x :: r, y :: t, h => by
    simp only [lexI, Bool.or_eq_true, Bool.and_eq_true, decide_eq_true_eq, Bool.not_eq_true', decide_eq_false_iff_not] at h
    simp only [lexI, Bool.or_eq_false_iff, Bool.and_eq_false_iff, decide_eq_false_iff_not, Bool.not_eq_false', decide_eq_true_eq]
    rcases h with h | ⟨h1, h2⟩
    · exact ⟨by omega, .inl h⟩
    · exact ⟨by omega, .inr (lexI_asym r t h2)⟩
theorem lexI_trans : ∀ a b c, lexI a b = true → lexI b c = true → lexI a c = true
  | [], [], _, h, _ => by simp [lexI] at h
  | [], _ :: _, [], _, h => by simp [lexI] at h
  | [], _ :: _, _ :: _, _, _ => by simp [lexI]
  | _ :: _, [], _, h, _ => by simp [lexI] at h
  | _ :: _, _ :: _, [], _, h => by simp [lexI] at h
  | x :: r, y :: t, z :: u, h1, h2 => by
    simp only [lexI, Bool.or_eq_true, Bool.and_eq_true, decide_eq_true_eq, Bool.not_eq_true', decide_eq_false_iff_not] at h1 h2 ⊢
    rcases h1 with h1 | ⟨h1, h3⟩
    · rcases h2 with h2 | ⟨h2, h4⟩
      · exact .inl (by omega)
      · exact .inl (by omega)
    · rcases h2 with h2 | ⟨h2, h4⟩
      · exact .inl (by omega)
      · by_cases e : x < z
        · exact .inl e
        · exact .inr ⟨by omega, lexI_trans r t u h3 h4⟩
theorem leD_tot (a b : D) : (leD a b || leD b a) = true := by
  unfold leD
  cases h : lexI (D.ky b) (D.ky a)
  · rfl
  · rw [lexI_asym _ _ h]; rfl
theorem leD_trans (a b c : D) (h1 : leD a b = true) (h2 : leD b c = true) : leD a c = true := by
  unfold leD at *
  simp only [Bool.not_eq_true'] at *
  cases h : lexI (D.ky c) (D.ky a)
  · rfl
  · exfalso
    cases h3 : lexI (D.ky a) (D.ky b)
    · rw [lexI_tot _ _ h1 h3, h] at h2
      cases h2
    · rw [lexI_trans _ _ _ h h3] at h2
      cases h2
theorem sorted_again (l : List D) : (l.mergeSort leD).Pairwise (fun a b => leD a b = true) := List.pairwise_mergeSort leD_trans leD_tot l
end MP
namespace MP

def headL (x : Dues) : D := (foundL x).headD .non
def inT (x : Dues) : Bool := isNon (headL x)
theorem sem10 (n : Nat) (x y : D) (e1 : inf.pg.sem (n + 5) 6 [.d x] = .ok (.d .non, [])) (e2 : inf.pg.sem (n + 5) 8 [.d x] = .ok (.d y, [])) : inf.pg.sem (n + 6) 10 [.d x] = .ok (.d y, []) := by
  rw [sm_10]
  simp [evE, evT, evA, evO, evC_nil, evC_t, evC_f, evC_e, evP, evI, exC, Rs.bind_ok, Rs.bind_st, Rs.calm_ok, ofO_some, ofO_none, rd, tk, at0, at1, set0, set1, put, puts, asgT, asgTs, setAt, sem1, sem2, semSl, opInt, truth, isOl, outs, backs, endF, alB, runF, startE, items, pick, List.length_cons, List.length_nil, List.cons_append, List.nil_append, List.replicate, List.map, Nat.reduceSub, Nat.reduceAdd, Nat.reduceBEq, Nat.reduceEqDiff, Bool.and_true, Bool.true_and, if_true, if_false, beq_self_eq_true, decide_true, decide_false, reduceIte, Bool.false_eq_true, cx_fn, Option.map_some, Option.bind_some, c_10, e1, e2, backs]
theorem sem9 (n : Nat) (x y : D) (e1 : inf.pg.sem (n + 6) 10 [.d x] = .ok (.d y, [])) : inf.pg.sem (n + 7) 9 [.d x] = .ok (.d (.bl (isNon y)), []) := by
  rw [sm_9]
  simp [evE, evT, evA, evO, evC_nil, evC_t, evC_f, evC_e, evP, evI, exC, Rs.bind_ok, Rs.bind_st, Rs.calm_ok, ofO_some, ofO_none, rd, tk, at0, at1, set0, set1, put, puts, asgT, asgTs, setAt, sem1, sem2, semSl, opInt, truth, isOl, outs, backs, endF, alB, runF, startE, items, pick, List.length_cons, List.length_nil, List.cons_append, List.nil_append, List.replicate, List.map, Nat.reduceSub, Nat.reduceAdd, Nat.reduceBEq, Nat.reduceEqDiff, Bool.and_true, Bool.true_and, if_true, if_false, beq_self_eq_true, decide_true, decide_false, reduceIte, Bool.false_eq_true, cx_fn, Option.map_some, Option.bind_some, c_9, e1, backs]
theorem latedays (n : Nat) (x : Dues) (o : x.Ok) : inf.pg.sem (n + 6) 10 [.d x.d] = .ok (.d (headL x), []) := sem10 n x.d (headL x) (checkD n x o) (lateof (n + 3) x o.h2 o.s1)
theorem intime (n : Nat) (x : Dues) (o : x.Ok) : inf.pg.sem (n + 7) 9 [.d x.d] = .ok (.d (.bl (inT x)), []) := sem9 n x.d (headL x) (latedays n x o)
def bearL (hs : List Int) (ss : List Snd) : D → Option D
  | .int m => if inT ⟨hs, m, ss⟩ then some (.int m) else none
  | _ => none
theorem rng10 (C : Ctx) (ρ : Env) (h : C.cst 2 = .int 9) : evI C (.rng1 (.u2 (.add) (.glo 2) (.lit (.int 1)))) ρ = .ok (rangeD 0 10, ρ) := by
  rw [show evI C (.rng1 (.u2 (.add) (.glo 2) (.lit (.int 1)))) ρ = (evE C (.u2 (.add) (.glo 2) (.lit (.int 1))) ρ).bind fun x => (ofO (opInt x.1)).bind fun i => if rngOk 0 i then .ok (rangeD 0 i, x.2) else .st by simp only [evI]]
  have e : evE C (.u2 (.add) (.glo 2) (.lit (.int 1))) ρ = .ok (.d (.int 10), ρ) := by
    simp [evE, evT, evA, evO, evC_nil, evC_t, evC_f, evC_e, evP, evI, exC, Rs.bind_ok, Rs.bind_st, Rs.calm_ok, ofO_some, ofO_none, rd, tk, at0, at1, set0, set1, put, puts, asgT, asgTs, setAt, sem1, sem2, semSl, opInt, truth, isOl, outs, backs, endF, alB, runF, startE, items, pick, List.length_cons, List.length_nil, List.cons_append, List.nil_append, List.replicate, List.map, Nat.reduceSub, Nat.reduceAdd, Nat.reduceBEq, Nat.reduceEqDiff, Bool.and_true, Bool.true_and, if_true, if_false, beq_self_eq_true, decide_true, decide_false, reduceIte, Bool.false_eq_true, cx_fn, Option.map_some, Option.bind_some, h]
  rw [e]
  rfl
theorem rlen10 : (rangeD 0 10).length ≤ line := by
  have : (rangeD 0 10).length = 10 := rfl
  rw [this]; unfold line; omega
theorem step11 (n : Nat) (xd hd f sd s y : D) (m : Int) (el : inf.pg.sem (n + 2) 8 [.d (.tup [hd, .int m, sd])] = .ok (.d y, [])) : ∃ s', stepL (cx (n + 2)) (.name 5) (.tr (.u1 (.isN) (.call 8 (.cons (.tup (.cons (.var 1) (.cons (.var 5) (.cons (.var 3) (.nil))))) (.nil))))) (.var 5) [5] (.int m) [.d xd, .d hd, .d f, .d sd, .un, .d s] = .ok (if isNon y then some (.int m) else none, [.d xd, .d hd, .d f, .d sd, .un, s']) := by
  have b3 : (3 : Nat) ≤ line := by unfold line; omega
  refine ⟨.d (.int m), ?_⟩
  cases hy : isNon y with
  | true => simp [stepL, evE, evT, evA, evO, evC_nil, evC_t, evC_f, evC_e, evP, evI, exC, Rs.bind_ok, Rs.bind_st, Rs.calm_ok, ofO_some, ofO_none, rd, tk, at0, at1, set0, set1, put, puts, asgT, asgTs, setAt, sem1, sem2, semSl, opInt, truth, isOl, outs, backs, endF, alB, runF, startE, items, pick, List.length_cons, List.length_nil, List.cons_append, List.nil_append, List.replicate, List.map, Nat.reduceSub, Nat.reduceAdd, Nat.reduceBEq, Nat.reduceEqDiff, Bool.and_true, Bool.true_and, if_true, if_false, beq_self_eq_true, decide_true, decide_false, reduceIte, Bool.false_eq_true, cx_fn, Option.map_some, Option.bind_some, wipeE, el, backs, b3, hy]
  | false => simp [stepL, evE, evT, evA, evO, evC_nil, evC_t, evC_f, evC_e, evP, evI, exC, Rs.bind_ok, Rs.bind_st, Rs.calm_ok, ofO_some, ofO_none, rd, tk, at0, at1, set0, set1, put, puts, asgT, asgTs, setAt, sem1, sem2, semSl, opInt, truth, isOl, outs, backs, endF, alB, runF, startE, items, pick, List.length_cons, List.length_nil, List.cons_append, List.nil_append, List.replicate, List.map, Nat.reduceSub, Nat.reduceAdd, Nat.reduceBEq, Nat.reduceEqDiff, Bool.and_true, Bool.true_and, if_true, if_false, beq_self_eq_true, decide_true, decide_false, reduceIte, Bool.false_eq_true, cx_fn, Option.map_some, Option.bind_some, wipeE, el, backs, b3, hy]
theorem step11' (n : Nat) (xd hd f sd : D) (s : Sl) (y : D) (m : Int) (el : inf.pg.sem (n + 2) 8 [.d (.tup [hd, .int m, sd])] = .ok (.d y, [])) : ∃ s', stepL (cx (n + 2)) (.name 5) (.tr (.u1 (.isN) (.call 8 (.cons (.tup (.cons (.var 1) (.cons (.var 5) (.cons (.var 3) (.nil))))) (.nil))))) (.var 5) [5] (.int m) [.d xd, .d hd, .d f, .d sd, .un, s] = .ok (if isNon y then some (.int m) else none, [.d xd, .d hd, .d f, .d sd, .un, s']) := by
  have b3 : (3 : Nat) ≤ line := by unfold line; omega
  refine ⟨.d (.int m), ?_⟩
  cases hy : isNon y with
  | true => simp [stepL, evE, evT, evA, evO, evC_nil, evC_t, evC_f, evC_e, evP, evI, exC, Rs.bind_ok, Rs.bind_st, Rs.calm_ok, ofO_some, ofO_none, rd, tk, at0, at1, set0, set1, put, puts, asgT, asgTs, setAt, sem1, sem2, semSl, opInt, truth, isOl, outs, backs, endF, alB, runF, startE, items, pick, List.length_cons, List.length_nil, List.cons_append, List.nil_append, List.replicate, List.map, Nat.reduceSub, Nat.reduceAdd, Nat.reduceBEq, Nat.reduceEqDiff, Bool.and_true, Bool.true_and, if_true, if_false, beq_self_eq_true, decide_true, decide_false, reduceIte, Bool.false_eq_true, cx_fn, Option.map_some, Option.bind_some, wipeE, el, backs, b3, hy]
  | false => simp [stepL, evE, evT, evA, evO, evC_nil, evC_t, evC_f, evC_e, evP, evI, exC, Rs.bind_ok, Rs.bind_st, Rs.calm_ok, ofO_some, ofO_none, rd, tk, at0, at1, set0, set1, put, puts, asgT, asgTs, setAt, sem1, sem2, semSl, opInt, truth, isOl, outs, backs, endF, alB, runF, startE, items, pick, List.length_cons, List.length_nil, List.cons_append, List.nil_append, List.replicate, List.map, Nat.reduceSub, Nat.reduceAdd, Nat.reduceBEq, Nat.reduceEqDiff, Bool.and_true, Bool.true_and, if_true, if_false, beq_self_eq_true, decide_true, decide_false, reduceIte, Bool.false_eq_true, cx_fn, Option.map_some, Option.bind_some, wipeE, el, backs, b3, hy]
theorem bears_l (n : Nat) (x : Dues) (h2 : x.hs.length ≤ 60) (s1 : x.ss.length ≤ 12) : evE (cx (n + 2)) l_11_0 [.d x.d, .d (tupI x.hs), .d (.int x.f), .d (.tup (x.ss.map Snd.d)), .un, .un] = .ok (.nw ((rangeD 0 10).filterMap (bearL x.hs x.ss)), [.d x.d, .d (tupI x.hs), .d (.int x.f), .d (.tup (x.ss.map Snd.d)), .un, .un]) := by
  rw [l_11_0]
  refine lc_fm (fun ρ => ∃ s, ρ = [.d x.d, .d (tupI x.hs), .d (.int x.f), .d (.tup (x.ss.map Snd.d)), .un, s]) (bearL x.hs x.ss) (rng10 _ _ (cs_2 _)) rfl rlen10 ⟨.un, rfl⟩ (fun y hy ρ ⟨s, e⟩ => ?_) (fun ρ' ⟨s, e⟩ => by subst e; rfl)
  subst e
  simp only [rangeD, List.mem_map] at hy
  obtain ⟨j, _, rfl⟩ := hy
  obtain ⟨s', e⟩ := step11' n x.d (tupI x.hs) (.int x.f) (.tup (x.ss.map Snd.d)) s (headL ⟨x.hs, 0 + (j : Int), x.ss⟩) (0 + (j : Int)) (lateof n ⟨x.hs, 0 + (j : Int), x.ss⟩ h2 s1)
  exact ⟨_, e, s', rfl⟩
def someL (x : Dues) : List D := (rangeD 0 10).filterMap (bearL x.hs x.ss)
def lastD (l : List D) : D := match l.getLast? with
  | some y => y
  | none => .non
theorem sem11 (n : Nat) (hd sd : D) (f : Int) (l : List D) (hl : l.length ≤ 10) (q : okEq (.lst l) = true) (e1 : inf.pg.sem (n + 5) 6 [.d (.tup [hd, .int f, sd])] = .ok (.d .non, [])) (e2 : evE (cx (n + 5)) l_11_0 [.d (.tup [hd, .int f, sd]), .d hd, .d (.int f), .d sd, .un, .un] = .ok (.nw l, [.d (.tup [hd, .int f, sd]), .d hd, .d (.int f), .d sd, .un, .un])) :
    inf.pg.sem (n + 6) 11 [.d (.tup [hd, .int f, sd])] = .ok (.d (lastD l), []) := by
  have q1 : okEq (.lst []) = true := rfl
  have z0 : (([] : List D).length ≤ line) = True := eq_true (Nat.zero_le _)
  rw [sm_11]
  rcases List.eq_nil_or_concat l with rfl | ⟨ys, y, rfl⟩
  · have q2 : D.eqv (.lst []) (.lst []) = true := rfl
    simp [evE, evT, evA, evO, evC_nil, evC_t, evC_f, evC_e, evP, evI, exC, Rs.bind_ok, Rs.bind_st, Rs.calm_ok, ofO_some, ofO_none, rd, tk, at0, at1, set0, set1, put, puts, asgT, asgTs, setAt, sem1, sem2, semSl, opInt, truth, isOl, outs, backs, endF, alB, runF, startE, items, pick, List.length_cons, List.length_nil, List.cons_append, List.nil_append, List.replicate, List.map, Nat.reduceSub, Nat.reduceAdd, Nat.reduceBEq, Nat.reduceEqDiff, Bool.and_true, Bool.true_and, if_true, if_false, beq_self_eq_true, decide_true, decide_false, reduceIte, Bool.false_eq_true, cx_fn, Option.map_some, Option.bind_some, c_11, e1, e2, backs, q1, q2, lastD]
  · rw [List.concat_eq_append] at *
    have q2 : D.eqv (.lst (ys ++ [y])) (.lst []) = false := by cases ys <;> rfl
    have q3 : atI (ys ++ [y]) (-1) = some y := by
      have g1 : ixN (ys ++ [y]).length (-1) = some ys.length := by
        simp only [ixN, List.length_append, List.length_cons, List.length_nil]
        rw [if_neg (by omega), if_pos (by omega)]
        congr 1
        omega
      unfold atI
      rw [g1]
      simp
    simp [evE, evT, evA, evO, evC_nil, evC_t, evC_f, evC_e, evP, evI, exC, Rs.bind_ok, Rs.bind_st, Rs.calm_ok, ofO_some, ofO_none, rd, tk, at0, at1, set0, set1, put, puts, asgT, asgTs, setAt, sem1, sem2, semSl, opInt, truth, isOl, outs, backs, endF, alB, runF, startE, items, pick, List.length_cons, List.length_nil, List.cons_append, List.nil_append, List.replicate, List.map, Nat.reduceSub, Nat.reduceAdd, Nat.reduceBEq, Nat.reduceEqDiff, Bool.and_true, Bool.true_and, if_true, if_false, beq_self_eq_true, decide_true, decide_false, reduceIte, Bool.false_eq_true, cx_fn, Option.map_some, Option.bind_some, c_11, e1, e2, backs, q, q1, q2, q3, lastD]
theorem bears (n : Nat) (x : Dues) (o : x.Ok) (q : okEq (.lst (someL x)) = true) : inf.pg.sem (n + 6) 11 [.d x.d] = .ok (.d (lastD (someL x)), []) :=
  sem11 n (tupI x.hs) (.tup (x.ss.map Snd.d)) x.f (someL x) (Nat.le_trans (List.length_filterMap_le ..) (Nat.le_refl 10)) q (checkD n x o) (bears_l (n + 3) x o.h2 o.s1)
end MP
namespace MP
/-! _law_late_days -/
theorem len_var (C : Ctx) (i : Nat) (hs : List Int) (ρ : Env) (h : ρ.at i = .d (tupI hs)) : evE C (.u1 (.len) (.var i)) ρ = .ok (.d (.int hs.length), ρ) := by
  simp only [evE, h, Rs.bind_ok, rd, ofO_some]
  have : sem1 .len (tupI hs) = some (.d (.int hs.length)) := by
    show some (Op.d (.int ((hs.map D.int).length : Nat))) = _
    rw [List.length_map]
  simp only [this, ofO_some, Rs.bind_ok]
theorem cut_range (m : Nat) (p : Nat) (h : p ≤ m) : cut (rangeD 0 m) (some (p : Int)) none = rangeD p m := by
  rw [cut_from _ _ (by omega)]
  apply List.ext_getElem
  · simp [rangeD]
  · intro i h1 h2
    simp [rangeD]
    try omega
theorem must18 (C : Ctx) (dd hd : D) (f p q : Int) (s6 : Sl) (ss : List Snd) (hl : ss.length ≤ 12) : evE C l_18_0 [.d dd, .d hd, .d (.int f), .d (.tup (ss.map Snd.d)), .d (.int p), .d (.int q), s6, .un] = .ok (.nw ((ss.filterMap fun s => if p ≤ s.a ∧ s.b ≤ q then some s.c else none).map D.int), [.d dd, .d hd, .d (.int f), .d (.tup (ss.map Snd.d)), .d (.int p), .d (.int q), s6, .un]) := by
  rw [l_18_0, ← gW_map]
  refine lc_fm (fun ρ => ∃ s7, ρ = [.d dd, .d hd, .d (.int f), .d (.tup (ss.map Snd.d)), .d (.int p), .d (.int q), s6, s7]) (gW p q) (by simp [evE, evT, evA, evO, evC_nil, evC_t, evC_f, evC_e, evP, evI, exC, Rs.bind_ok, Rs.bind_st, Rs.calm_ok, ofO_some, ofO_none, rd, tk, at0, at1, set0, set1, put, puts, asgT, asgTs, setAt, sem1, sem2, semSl, opInt, truth, isOl, outs, backs, endF, alB, runF, startE, items, pick, List.length_cons, List.length_nil, List.cons_append, List.nil_append, List.replicate, List.map, Nat.reduceSub, Nat.reduceAdd, Nat.reduceBEq, Nat.reduceEqDiff, Bool.and_true, Bool.true_and, if_true, if_false, beq_self_eq_true, decide_true, decide_false, reduceIte, Bool.false_eq_true, cx_fn, Option.map_some, Option.bind_some]) rfl (by rw [List.length_map]; unfold line; omega) ⟨.un, rfl⟩ (fun y hy ρ ⟨s7, e⟩ => ?_) (fun ρ' ⟨s7, e⟩ => by subst e; rfl)
  subst e
  obtain ⟨t, ht, rfl⟩ := List.mem_map.mp hy
  refine ⟨_, ?_, .d t.d, rfl⟩
  have eg : gW p q t.d = if p ≤ t.a ∧ t.b ≤ q then some (.int t.c) else none := rfl
  rw [eg]
  by_cases c1 : p ≤ t.a
  · by_cases c2 : t.b ≤ q
    · simp [stepL, evE, evT, evA, evO, evC_nil, evC_t, evC_f, evC_e, evP, evI, exC, Rs.bind_ok, Rs.bind_st, Rs.calm_ok, ofO_some, ofO_none, rd, tk, at0, at1, set0, set1, put, puts, asgT, asgTs, setAt, sem1, sem2, semSl, opInt, truth, isOl, outs, backs, endF, alB, runF, startE, items, pick, List.length_cons, List.length_nil, List.cons_append, List.nil_append, List.replicate, List.map, Nat.reduceSub, Nat.reduceAdd, Nat.reduceBEq, Nat.reduceEqDiff, Bool.and_true, Bool.true_and, if_true, if_false, beq_self_eq_true, decide_true, decide_false, reduceIte, Bool.false_eq_true, cx_fn, Option.map_some, Option.bind_some, wipeE, Snd.d, c1, c2, atI, ixN]
    · simp [stepL, evE, evT, evA, evO, evC_nil, evC_t, evC_f, evC_e, evP, evI, exC, Rs.bind_ok, Rs.bind_st, Rs.calm_ok, ofO_some, ofO_none, rd, tk, at0, at1, set0, set1, put, puts, asgT, asgTs, setAt, sem1, sem2, semSl, opInt, truth, isOl, outs, backs, endF, alB, runF, startE, items, pick, List.length_cons, List.length_nil, List.cons_append, List.nil_append, List.replicate, List.map, Nat.reduceSub, Nat.reduceAdd, Nat.reduceBEq, Nat.reduceEqDiff, Bool.and_true, Bool.true_and, if_true, if_false, beq_self_eq_true, decide_true, decide_false, reduceIte, Bool.false_eq_true, cx_fn, Option.map_some, Option.bind_some, wipeE, Snd.d, c1, c2, atI, ixN]
  · simp [stepL, evE, evT, evA, evO, evC_nil, evC_t, evC_f, evC_e, evP, evI, exC, Rs.bind_ok, Rs.bind_st, Rs.calm_ok, ofO_some, ofO_none, rd, tk, at0, at1, set0, set1, put, puts, asgT, asgTs, setAt, sem1, sem2, semSl, opInt, truth, isOl, outs, backs, endF, alB, runF, startE, items, pick, List.length_cons, List.length_nil, List.cons_append, List.nil_append, List.replicate, List.map, Nat.reduceSub, Nat.reduceAdd, Nat.reduceBEq, Nat.reduceEqDiff, Bool.and_true, Bool.true_and, if_true, if_false, beq_self_eq_true, decide_true, decide_false, reduceIte, Bool.false_eq_true, cx_fn, Option.map_some, Option.bind_some, wipeE, Snd.d, c1, atI, ixN]
theorem body18 (n : Nat) (dd hd sd : D) (f p q w r : Int) (s5 s6 : Sl) (ns : List Int) (hw : ns.sum = w) (em : ∀ s6, evE (cx (n + 1)) l_18_0 [.d dd, .d hd, .d (.int f), .d sd, .d (.int p), .d (.int q), s6, .un] = .ok (.nw (ns.map D.int), [.d dd, .d hd, .d (.int f), .d sd, .d (.int p), .d (.int q), s6, .un]))
    (er : inf.pg.sem (n + 1) 17 [.d hd, .d (.int p), .d (.int q), .d (.int f)] = .ok (.d (.int r), [])) :
    ∃ ρ', bodyF (cx (n + 1)) (.name 5) g_18_1 (.int q) [.d dd, .d hd, .d (.int f), .d sd, .d (.int p), s5, s6, .un] = .ok (pickF (if r < w then some (.tup [.int p, .int q]) else none) ρ') ∧ ∃ s5 s6, ρ' = [.d dd, .d hd, .d (.int f), .d sd, .d (.int p), s5, s6, .un] := by
  have b2 : (2 : Nat) ≤ line := by unfold line; omega
  have e0 := em s6
  refine ⟨[.d dd, .d hd, .d (.int f), .d sd, .d (.int p), .d (.int q), .d (.int w), .un], ?_, _, _, rfl⟩
  by_cases c : r < w
  · simp [bodyF, evE, evT, evA, evO, evC_nil, evC_t, evC_f, evC_e, evP, evI, exC, Rs.bind_ok, Rs.bind_st, Rs.calm_ok, ofO_some, ofO_none, rd, tk, at0, at1, set0, set1, put, puts, asgT, asgTs, setAt, sem1, sem2, semSl, opInt, truth, isOl, outs, backs, endF, alB, runF, startE, items, pick, List.length_cons, List.length_nil, List.cons_append, List.nil_append, List.replicate, List.map, Nat.reduceSub, Nat.reduceAdd, Nat.reduceBEq, Nat.reduceEqDiff, Bool.and_true, Bool.true_and, if_true, if_false, beq_self_eq_true, decide_true, decide_false, reduceIte, Bool.false_eq_true, cx_fn, Option.map_some, Option.bind_some, g_18_1, e0, er, backs, dInts_map, hw, c, b2, pickF]
  · simp [bodyF, evE, evT, evA, evO, evC_nil, evC_t, evC_f, evC_e, evP, evI, exC, Rs.bind_ok, Rs.bind_st, Rs.calm_ok, ofO_some, ofO_none, rd, tk, at0, at1, set0, set1, put, puts, asgT, asgTs, setAt, sem1, sem2, semSl, opInt, truth, isOl, outs, backs, endF, alB, runF, startE, items, pick, List.length_cons, List.length_nil, List.cons_append, List.nil_append, List.replicate, List.map, Nat.reduceSub, Nat.reduceAdd, Nat.reduceBEq, Nat.reduceEqDiff, Bool.and_true, Bool.true_and, if_true, if_false, beq_self_eq_true, decide_true, decide_false, reduceIte, Bool.false_eq_true, cx_fn, Option.map_some, Option.bind_some, g_18_1, e0, er, backs, dInts_map, hw, c, b2, pickF]
theorem dInts_fm (l : List Int) : dInts (l.map D.int) = some l := dInts_map l
theorem inner18 (n : Nat) (x : Dues) (hl : x.ss.length ≤ 12) (h60 : x.hs.length ≤ 60) (hf : 0 ≤ x.f) (p : Nat) (hp : p ≤ x.hs.length) (s5 s6 : Sl) : ∃ ρ', exC (cx (n + 1)) f_18_1 [.d x.d, .d (tupI x.hs), .d (.int x.f), .d (.tup (x.ss.map Snd.d)), .d (.int p), s5, s6, .un] = .ok (pickF ((rangeD p x.hs.length).findSome? (gL x p)) ρ') ∧ ∃ s5 s6, ρ' = [.d x.d, .d (tupI x.hs), .d (.int x.f), .d (.tup (x.ss.map Snd.d)), .d (.int p), s5, s6, .un] := by
  rw [f_18_1, for_eq]
  have w : evI (cx (n + 1)) (.rng2 (.var 4) (.u1 (.len) (.var 1))) [.d x.d, .d (tupI x.hs), .d (.int x.f), .d (.tup (x.ss.map Snd.d)), .d (.int p), s5, s6, .un] = .ok (rangeD p x.hs.length, [.d x.d, .d (tupI x.hs), .d (.int x.f), .d (.tup (x.ss.map Snd.d)), .d (.int p), s5, s6, .un]) := by
    have ok : rngOk p x.hs.length = true := by simp [rngOk]; omega
    exact rng2_eq (evE_var _ 4 _ _ rfl) (len_var _ 1 _ _ rfl) ok
  rw [w]
  simp only [Rs.bind_ok]
  refine loopF_find (fun ρ => ∃ s5 s6, ρ = [.d x.d, .d (tupI x.hs), .d (.int x.f), .d (.tup (x.ss.map Snd.d)), .d (.int p), s5, s6, .un]) (gL x p) (rangeD p x.hs.length) _ (fun y hy ρ ⟨s5, s6, e⟩ => ?_) ⟨s5, s6, rfl⟩
  subst e
  simp only [rangeD, List.mem_map] at hy
  obtain ⟨j, _, rfl⟩ := hy
  generalize (p : Int) + (j : Int) = q
  have er := room n x.hs p q x.f
  rw [room_rest _ _ _ _ hf] at er
  obtain ⟨ρ', e1, e2⟩ := body18 n x.d (tupI x.hs) (.tup (x.ss.map Snd.d)) x.f p q (wantI x.ss p q) (restI x.hs x.f p q) s5 s6 _ rfl (fun s6 => must18 (cx (n + 1)) x.d (tupI x.hs) x.f p q s6 x.ss hl) er
  refine ⟨ρ', ?_, e2⟩
  rw [e1]
  have eg : gL x p (.int q) = if lateB x p q then some (.tup [.int p, .int q]) else none := rfl
  rw [eg]
  simp only [lateB, decide_eq_true_eq]
theorem found_head (x : Dues) : (foundL x).headD .non = ((rangeD 0 x.hs.length).findSome? fun y => (fL x (rangeD 0 x.hs.length) y).head?).getD .non := by
  rw [← List.head?_flatMap]
  unfold foundL
  rw [List.headD_eq_head?_getD]
theorem outer18 (n : Nat) (x : Dues) (hl : x.ss.length ≤ 12) (h60 : x.hs.length ≤ 60) (hf : 0 ≤ x.f) : ∃ ρ', exC (cx (n + 1)) f_18_2 [.d x.d, .d (tupI x.hs), .d (.int x.f), .d (.tup (x.ss.map Snd.d)), .un, .un, .un, .un] = .ok (pickF ((rangeD 0 x.hs.length).findSome? fun y => (fL x (rangeD 0 x.hs.length) y).head?) ρ') ∧ ∃ s4 s5 s6, ρ' = [.d x.d, .d (tupI x.hs), .d (.int x.f), .d (.tup (x.ss.map Snd.d)), s4, s5, s6, .un] := by
  rw [f_18_2, for_eq]
  have w : evI (cx (n + 1)) (.rng1 (.u1 (.len) (.var 1))) [.d x.d, .d (tupI x.hs), .d (.int x.f), .d (.tup (x.ss.map Snd.d)), .un, .un, .un, .un] = .ok (rangeD 0 x.hs.length, [.d x.d, .d (tupI x.hs), .d (.int x.f), .d (.tup (x.ss.map Snd.d)), .un, .un, .un, .un]) := by
    have ok : rngOk 0 x.hs.length = true := by simp [rngOk]; omega
    exact rng1_eq (len_var _ 1 _ _ rfl) ok
  rw [w]
  simp only [Rs.bind_ok]
  refine loopF_find (fun ρ => ∃ s4 s5 s6, ρ = [.d x.d, .d (tupI x.hs), .d (.int x.f), .d (.tup (x.ss.map Snd.d)), s4, s5, s6, .un]) (fun y => (fL x (rangeD 0 x.hs.length) y).head?) (rangeD 0 x.hs.length) _ (fun y hy ρ ⟨s4, s5, s6, e⟩ => ?_) ⟨.un, .un, .un, rfl⟩
  subst e
  simp only [rangeD, List.mem_map, List.mem_range] at hy
  obtain ⟨j, hj, rfl⟩ := hy
  have hj' : j ≤ x.hs.length := by omega
  rw [Int.zero_add]
  have ef : fL x (rangeD 0 x.hs.length) (.int (j : Int)) = (rangeD j x.hs.length).filterMap (gL x j) := by
    show (cut (rangeD 0 x.hs.length) (some (j : Int)) none).filterMap (gL x j) = _
    rw [cut_range _ _ hj']
  rw [ef, List.head?_filterMap]
  obtain ⟨ρ', e1, s5', s6', e2⟩ := inner18 n x hl h60 hf j hj' s5 s6
  refine ⟨ρ', ?_, .d (.int j), s5', s6', e2⟩
  rw [← e1]
  exact bodyF_ok rfl
theorem sem18 (n : Nat) (hd sd : D) (f : Int) (r : Option D) (e : ∃ ρ', exC (cx (n + 1)) f_18_2 [.d (.tup [hd, .int f, sd]), .d hd, .d (.int f), .d sd, .un, .un, .un, .un] = .ok (pickF r ρ') ∧ ∃ s4 s5 s6, ρ' = [.d (.tup [hd, .int f, sd]), .d hd, .d (.int f), .d sd, s4, s5, s6, .un]) : inf.pg.sem (n + 2) 18 [.d (.tup [hd, .int f, sd])] = .ok (.d (r.getD .non), []) := by
  obtain ⟨ρ', e1, s4, s5, s6, e2⟩ := e
  rw [sm_18]
  subst e2
  cases r with
  | none => simp [evE, evT, evA, evO, evC_nil, evC_t, evC_f, evC_e, evP, evI, exC, Rs.bind_ok, Rs.bind_st, Rs.calm_ok, ofO_some, ofO_none, rd, tk, at0, at1, set0, set1, put, puts, asgT, asgTs, setAt, sem1, sem2, semSl, opInt, truth, isOl, outs, backs, endF, alB, runF, startE, items, pick, List.length_cons, List.length_nil, List.cons_append, List.nil_append, List.replicate, List.map, Nat.reduceSub, Nat.reduceAdd, Nat.reduceBEq, Nat.reduceEqDiff, Bool.and_true, Bool.true_and, if_true, if_false, beq_self_eq_true, decide_true, decide_false, reduceIte, Bool.false_eq_true, cx_fn, Option.map_some, Option.bind_some, c_18, e1, pickF]
  | some v => simp [evE, evT, evA, evO, evC_nil, evC_t, evC_f, evC_e, evP, evI, exC, Rs.bind_ok, Rs.bind_st, Rs.calm_ok, ofO_some, ofO_none, rd, tk, at0, at1, set0, set1, put, puts, asgT, asgTs, setAt, sem1, sem2, semSl, opInt, truth, isOl, outs, backs, endF, alB, runF, startE, items, pick, List.length_cons, List.length_nil, List.cons_append, List.nil_append, List.replicate, List.map, Nat.reduceSub, Nat.reduceAdd, Nat.reduceBEq, Nat.reduceEqDiff, Bool.and_true, Bool.true_and, if_true, if_false, beq_self_eq_true, decide_true, decide_false, reduceIte, Bool.false_eq_true, cx_fn, Option.map_some, Option.bind_some, c_18, e1, pickF]
theorem lawlate (n : Nat) (x : Dues) (hl : x.ss.length ≤ 12) (h60 : x.hs.length ≤ 60) (hf : 0 ≤ x.f) : inf.pg.sem (n + 2) 18 [.d x.d] = .ok (.d ((foundL x).headD .non), []) := by
  rw [found_head]
  exact sem18 n (tupI x.hs) (.tup (x.ss.map Snd.d)) x.f _ (outer18 n x hl h60 hf)
end MP
namespace MP
/-! drawn dues -/
theorem hands16 (n : Nat) (a b c days most many wide : Int) (h1 : 1 ≤ many) (h2 : many ≤ 60) (w1 : 0 < wide) (w2 : wide ≤ 1000) :
    ∃ hs : List Int, ∃ a' b' c' : Int, hs.length = many.toNat ∧ (∀ i ∈ hs, 0 ≤ i ∧ i < wide) ∧ evE (cx (n + 1)) l_16_0 [.ol true [.int a, .int b, .int c], .d (.int days), .d (.int most), .d (.int many), .d (.int wide), .un, .un, .un, .un, .un, .un] = .ok (.nw (hs.map .int), [.ol true [.int a', .int b', .int c'], .d (.int days), .d (.int most), .d (.int many), .d (.int wide), .un, .un, .un, .un, .un, .un]) := by
  rw [l_16_0]
  have w : evI (cx (n + 1)) (.rng1 (.var 3)) [.ol true [.int a, .int b, .int c], .d (.int days), .d (.int most), .d (.int many), .d (.int wide), .un, .un, .un, .un, .un, .un] = .ok (rangeD 0 many, [.ol true [.int a, .int b, .int c], .d (.int days), .d (.int most), .d (.int many), .d (.int wide), .un, .un, .un, .un, .un, .un]) :=
    rng1_eq (evE_var _ 3 _ _ rfl) (by simp [rngOk]; omega)
  obtain ⟨ys, ρ', e, ⟨a', b', c', s6, hρ⟩, l, p⟩ := lc_ex (fun ρ => ∃ a b c : Int, ∃ s, ρ = [.ol true [.int a, .int b, .int c], .d (.int days), .d (.int most), .d (.int many), .d (.int wide), .un, s, .un, .un, .un, .un]) (fun y => ∃ i : Int, y = .int i ∧ 0 ≤ i ∧ i < wide) w rfl (by rw [rlen]; unfold line; omega) ⟨a, b, c, .un, rfl⟩ (tg := .name 6) (c := .omit) (elt := .call 13 (.cons (.var 0) (.cons (.var 4) (.nil)))) (vs := [6]) (fun y hy ρ ⟨a, b, c, s, e⟩ => by
    subst e
    simp only [rangeD, List.mem_map] at hy
    obtain ⟨j, _, rfl⟩ := hy
    generalize (0 : Int) + (j : Int) = q
    obtain ⟨r, a', b', c', r1, r2, e⟩ := dip n a b c wide w1 (by omega)
    refine ⟨[.ol true [.int a', .int b', .int c'], .d (.int days), .d (.int most), .d (.int many), .d (.int wide), .un, .d (.int q), .un, .un, .un, .un], .int r, ?_, ⟨a', b', c', _, rfl⟩, r, rfl, r1, r2⟩
    simp [stepL, evE, evT, evA, evO, evC_nil, evC_t, evC_f, evC_e, evP, evI, exC, Rs.bind_ok, Rs.bind_st, Rs.calm_ok, ofO_some, ofO_none, rd, tk, at0, at1, set0, set1, put, puts, asgT, asgTs, setAt, sem1, sem2, semSl, opInt, truth, isOl, outs, backs, endF, alB, runF, startE, items, pick, List.length_cons, List.length_nil, List.cons_append, List.nil_append, List.replicate, List.map, Nat.reduceSub, Nat.reduceAdd, Nat.reduceBEq, Nat.reduceEqDiff, Bool.and_true, Bool.true_and, if_true, if_false, beq_self_eq_true, decide_true, decide_false, reduceIte, Bool.false_eq_true, cx_fn, Option.map_some, Option.bind_some, wipeE, e, backs])
  obtain ⟨hs, rfl⟩ := ints_of ys fun y hy => by obtain ⟨i, e, _⟩ := p y hy; exact ⟨i, e⟩
  refine ⟨hs, a', b', c', by rw [rlen] at l; rw [← l, List.length_map], fun i hi => ?_, ?_⟩
  · obtain ⟨j, e, h1, h2⟩ := p (.int i) (List.mem_map_of_mem hi)
    cases e
    exact ⟨h1, h2⟩
  · rw [e, hρ]
    rfl
theorem turn16 (n : Nat) (a b c days most many wide : Int) (hd : D) (h1 : 1 ≤ many) (h2 : many ≤ 60) (w1 : 0 < wide) (w2 : wide ≤ 1000) (ss : List Snd) (hl : ss.length ≤ 1000) (q : Int) (s8 s9 s10 : Sl) :
    ∃ a' b' c' : Int, ∃ s : Snd, s.ok many ∧ ∃ s9' s10', bodyF (cx (n + 2)) (.name 8) g_16_1 (.int q) [.ol true [.int a, .int b, .int c], .d (.int days), .d (.int most), .d (.int many), .d (.int wide), .d hd, .un, .ol false (ss.map Snd.d), s8, s9, s10]
      = .ok (.nx, [.ol true [.int a', .int b', .int c'], .d (.int days), .d (.int most), .d (.int many), .d (.int wide), .d hd, .un, .ol false ((ss ++ [s]).map Snd.d), .d (.int q), s9', s10']) := by
  obtain ⟨r1, a1, b1, c1, r11, r12, e1⟩ := dip (n + 1) a b c many (by omega) (by omega)
  obtain ⟨v, hv, a2, b2, c2, e2⟩ := one n a1 b1 c1 [.int wide, .int (2 * wide), .int 3] (by simp) (by simp)
  have hv' : ∃ u : Int, v = .int u ∧ 0 < u ∧ u < 1073741824 := by
    simp only [List.mem_cons, List.not_mem_nil, or_false] at hv
    rcases hv with rfl | rfl | rfl
    · exact ⟨_, rfl, by omega, by omega⟩
    · exact ⟨_, rfl, by omega, by omega⟩
    · exact ⟨_, rfl, by omega, by omega⟩
  obtain ⟨u, rfl, u1, u2⟩ := hv'
  obtain ⟨r3, a3, b3, c3, r31, r32, e3⟩ := dip (n + 1) a2 b2 c2 u u1 u2
  obtain ⟨r4, a4, b4, c4, r41, r42, e4⟩ := dip (n + 1) a3 b3 c3 (many - r1) (by omega) (by omega)
  have hm : ∃ m : Int, (if 1 + r3 < 9999 then 1 + r3 else 9999) = m ∧ 1 ≤ m ∧ m ≤ 9999 := ⟨_, rfl, by split <;> omega, by split <;> omega⟩
  obtain ⟨m, em, m1, m2⟩ := hm
  have s1 : sem2 .mn (.int 9999) (.int (1 + r3)) = some (.d (.int m)) := by rw [← em]; rfl
  have l3 : (3 : Nat) ≤ line := by unfold line; omega
  have l4 : (List.map Snd.d ss).length + 1 ≤ line := by rw [List.length_map]; unfold line; omega
  have mo : mulOk 2 wide = true := by simp [mulOk]
  refine ⟨a4, b4, c4, ⟨r1, r1 + r4, m⟩, ⟨r11, by show r1 ≤ r1 + r4; omega, by show r1 + r4 ≤ many - 1; omega, m1, m2⟩, .d (.int r1), .d (.int (1 + r3)), ?_⟩
  rw [List.map_append]
  show bodyF (cx (n + 2)) (.name 8) g_16_1 (.int q) _ = .ok (.nx, [.ol true [.int a4, .int b4, .int c4], .d (.int days), .d (.int most), .d (.int many), .d (.int wide), .d hd, .un, .ol false (ss.map Snd.d ++ [.tup [.int r1, .int (r1 + r4), .int m]]), .d (.int q), .d (.int r1), .d (.int (1 + r3))])
  generalize List.map Snd.d ss = sd at *
  have l4' : sd.length < line := l4
  simp [bodyF, evE, evT, evA, evO, evC_nil, evC_t, evC_f, evC_e, evP, evI, exC, Rs.bind_ok, Rs.bind_st, Rs.calm_ok, ofO_some, ofO_none, rd, tk, at0, at1, set0, set1, put, puts, asgT, asgTs, setAt, sem1, sem2, semSl, opInt, truth, isOl, outs, backs, endF, alB, runF, startE, items, pick, List.length_cons, List.length_nil, List.cons_append, List.nil_append, List.replicate, List.map, Nat.reduceSub, Nat.reduceAdd, Nat.reduceBEq, Nat.reduceEqDiff, Bool.and_true, Bool.true_and, if_true, if_false, beq_self_eq_true, decide_true, decide_false, reduceIte, Bool.false_eq_true, cx_fn, Option.map_some, Option.bind_some, g_16_1, e1, e2, e3, e4, backs, l3, l4, l4', mo]
  exact em
theorem turns16 (n : Nat) (days most many wide : Int) (hd : D) (h1 : 1 ≤ many) (h2 : many ≤ 60) (w1 : 0 < wide) (w2 : wide ≤ 1000) : ∀ (xs : List Int) (a b c : Int) (ss : List Snd) (s8 s9 s10 : Sl), (∀ s ∈ ss, s.ok many) → ss.length + xs.length ≤ 1000 →
    ∃ a' b' c' : Int, ∃ ss' : List Snd, (∀ s ∈ ss', s.ok many) ∧ ss'.length = ss.length + xs.length ∧ ∃ s8' s9' s10', loopF (bodyF (cx (n + 2)) (.name 8) g_16_1) (xs.map D.int) [.ol true [.int a, .int b, .int c], .d (.int days), .d (.int most), .d (.int many), .d (.int wide), .d hd, .un, .ol false (ss.map Snd.d), s8, s9, s10]
      = .ok (.nx, [.ol true [.int a', .int b', .int c'], .d (.int days), .d (.int most), .d (.int many), .d (.int wide), .d hd, .un, .ol false (ss'.map Snd.d), s8', s9', s10'])
  | [], a, b, c, ss, s8, s9, s10, hs, _ => ⟨a, b, c, ss, hs, rfl, s8, s9, s10, rfl⟩
  | q :: xs, a, b, c, ss, s8, s9, s10, hs, hl => by
    obtain ⟨a1, b1, c1, s, so, s9', s10', e1⟩ := turn16 n a b c days most many wide hd h1 h2 w1 w2 ss (by omega) q s8 s9 s10
    obtain ⟨a2, b2, c2, ss', hs', l', t8, t9, t10, e2⟩ := turns16 n days most many wide hd h1 h2 w1 w2 xs a1 b1 c1 (ss ++ [s]) (.d (.int q)) s9' s10' (fun z hz => by
      rcases List.mem_append.mp hz with h | h
      · exact hs z h
      · rw [List.mem_singleton.mp h]; exact so) (by rw [List.length_append]; simp only [List.length_cons, List.length_nil] at hl ⊢; omega)
    refine ⟨a2, b2, c2, ss', hs', by rw [l', List.length_append]; simp only [List.length_cons, List.length_nil]; omega, t8, t9, t10, ?_⟩
    rw [List.map_cons]
    simp only [loopF, e1, Rs.bind_ok]
    exact e2
theorem snd_of : ∀ l : List D, (∀ y ∈ l, ∃ s : Snd, y = s.d) → ∃ ss : List Snd, l = ss.map Snd.d
  | [], _ => ⟨[], rfl⟩
  | y :: l, h => by
    obtain ⟨s, rfl⟩ := h y List.mem_cons_self
    obtain ⟨ss, rfl⟩ := snd_of l fun z hz => h z (List.mem_cons_of_mem _ hz)
    exact ⟨s :: ss, rfl⟩
theorem Snd.d_inj {s t : Snd} (h : s.d = t.d) : s = t := by
  cases s; cases t
  simp only [Snd.d, D.tup.injEq, List.cons.injEq, D.int.injEq, and_true] at h
  obtain ⟨rfl, rfl, rfl⟩ := h
  rfl
theorem sem16 (n : Nat) (a0 b0 c0 days most r1 a1 b1 c1 wide a2 b2 c2 a3 b3 c3 : Int) (hs : List Int) (s8 s9 s10 : Sl) (a4 b4 c4 r5 a5 b5 c5 f a6 b6 c6 : Int) (ss ss' : List Snd)
    (e1 : inf.pg.sem (n + 2) 13 [.ol true [.int a0, .int b0, .int c0], .d (.int days)] = .ok (.d (.int r1), [[.int a1, .int b1, .int c1]]))
    (e2 : inf.pg.sem (n + 2) 14 [.ol true [.int a1, .int b1, .int c1], .d (.lst [.int 2, .int 6, .int 40, .int 1000])] = .ok (.d (.int wide), [[.int a2, .int b2, .int c2]]))
    (e3 : evE (cx (n + 2)) l_16_0 [.ol true [.int a2, .int b2, .int c2], .d (.int days), .d (.int most), .d (.int (1 + r1)), .d (.int wide), .un, .un, .un, .un, .un, .un] = .ok (.nw (hs.map .int), [.ol true [.int a3, .int b3, .int c3], .d (.int days), .d (.int most), .d (.int (1 + r1)), .d (.int wide), .un, .un, .un, .un, .un, .un]))
    (e4 : exC (cx (n + 2)) f_16_1 [.ol true [.int a3, .int b3, .int c3], .d (.int days), .d (.int most), .d (.int (1 + r1)), .d (.int wide), .d (tupI hs), .un, .ol false [], .un, .un, .un] = .ok (.nx, [.ol true [.int a4, .int b4, .int c4], .d (.int days), .d (.int most), .d (.int (1 + r1)), .d (.int wide), .d (tupI hs), .un, .ol false (ss.map Snd.d), s8, s9, s10]))
    (e5 : inf.pg.sem (n + 2) 14 [.ol true [.int a4, .int b4, .int c4], .d (.lst [.int 1, .int 2, .int 3, .int 10])] = .ok (.d (.int r5), [[.int a5, .int b5, .int c5]]))
    (e6 : inf.pg.sem (n + 2) 13 [.ol true [.int a5, .int b5, .int c5], .d (.int r5)] = .ok (.d (.int f), [[.int a6, .int b6, .int c6]]))
    (e7 : (ss.map Snd.d).mergeSort leD = ss'.map Snd.d) :
    inf.pg.sem (n + 3) 16 [.ol true [.int a0, .int b0, .int c0], .d (.int days), .d (.int most)] = .ok (.d (Dues.d ⟨hs, f, ss'⟩), [[.int a6, .int b6, .int c6]]) := by
  have so := sortOk_sends ss
  generalize List.map Snd.d ss = sd at *
  have l4 : (4 : Nat) ≤ line := by unfold line; omega
  have l3 : (3 : Nat) ≤ line := by unfold line; omega
  simp only [tupI] at e4
  rw [sm_16]
  simp [evE, evT, evA, evO, evC_nil, evC_t, evC_f, evC_e, evP, evI, exC, Rs.bind_ok, Rs.bind_st, Rs.calm_ok, ofO_some, ofO_none, rd, tk, at0, at1, set0, set1, put, puts, asgT, asgTs, setAt, sem1, sem2, semSl, opInt, truth, isOl, outs, backs, endF, alB, runF, startE, items, pick, List.length_cons, List.length_nil, List.cons_append, List.nil_append, List.replicate, List.map, Nat.reduceSub, Nat.reduceAdd, Nat.reduceBEq, Nat.reduceEqDiff, Bool.and_true, Bool.true_and, if_true, if_false, beq_self_eq_true, decide_true, decide_false, reduceIte, Bool.false_eq_true, cx_fn, Option.map_some, Option.bind_some, c_16, e1, e2, e3, e4, e5, e6, e7, so, backs, l4, l3, Dues.d, tupI]
theorem drawdues (n : Nat) (a b c days most : Int) (d1 : 1 ≤ days) (d2 : days ≤ 60) (m1 : 0 ≤ most) (m2 : most ≤ 12) : ∃ x : Dues, x.Ok ∧ (x.hs.length ≤ days ∧ x.ss.length ≤ most) ∧ ∃ a' b' c' : Int, inf.pg.sem (n + 3) 16 [.ol true [.int a, .int b, .int c], .d (.int days), .d (.int most)] = .ok (.d x.d, [[.int a', .int b', .int c']]) := by
  obtain ⟨r1, a1, b1, c1, r11, r12, e1⟩ := dip (n + 1) a b c days (by omega) (by omega)
  obtain ⟨v, hv, a2, b2, c2, e2⟩ := one n a1 b1 c1 [.int 2, .int 6, .int 40, .int 1000] (by simp) (by simp)
  have hv' : ∃ u : Int, v = .int u ∧ 0 < u ∧ u ≤ 1000 := by
    simp only [List.mem_cons, List.not_mem_nil, or_false] at hv
    rcases hv with rfl | rfl | rfl | rfl <;> exact ⟨_, rfl, by omega, by omega⟩
  obtain ⟨wide, rfl, w1, w2⟩ := hv'
  obtain ⟨hs, a3, b3, c3, hl, hb, e3⟩ := hands16 (n + 1) a2 b2 c2 days most (1 + r1) wide (by omega) (by omega) w1 w2
  obtain ⟨r4, a4, b4, c4, r41, r42, e4⟩ := dip (n + 1) a3 b3 c3 (most + 1) (by omega) (by omega)
  obtain ⟨xs, hx, xl⟩ := rangeD_ints r4
  obtain ⟨a5, b5, c5, ss, sok, sl, s8, s9, s10, e5⟩ := turns16 n days most (1 + r1) wide (tupI hs) (by omega) (by omega) w1 w2 xs a4 b4 c4 [] .un .un .un (by simp) (by simp; omega)
  have ef : exC (cx (n + 2)) f_16_1 [.ol true [.int a3, .int b3, .int c3], .d (.int days), .d (.int most), .d (.int (1 + r1)), .d (.int wide), .d (tupI hs), .un, .ol false [], .un, .un, .un] = .ok (.nx, [.ol true [.int a5, .int b5, .int c5], .d (.int days), .d (.int most), .d (.int (1 + r1)), .d (.int wide), .d (tupI hs), .un, .ol false (ss.map Snd.d), s8, s9, s10]) := by
    rw [f_16_1, for_eq]
    have w : evI (cx (n + 2)) (.rng1 (.call 13 (.cons (.var 0) (.cons (.u2 (.add) (.var 2) (.lit (.int 1))) (.nil))))) [.ol true [.int a3, .int b3, .int c3], .d (.int days), .d (.int most), .d (.int (1 + r1)), .d (.int wide), .d (tupI hs), .un, .ol false [], .un, .un, .un] = .ok (rangeD 0 r4, [.ol true [.int a4, .int b4, .int c4], .d (.int days), .d (.int most), .d (.int (1 + r1)), .d (.int wide), .d (tupI hs), .un, .ol false [], .un, .un, .un]) := by
      refine rng1_eq ?_ (by simp [rngOk]; omega)
      generalize tupI hs = hd
      simp [evE, evT, evA, evO, evC_nil, evC_t, evC_f, evC_e, evP, evI, exC, Rs.bind_ok, Rs.bind_st, Rs.calm_ok, ofO_some, ofO_none, rd, tk, at0, at1, set0, set1, put, puts, asgT, asgTs, setAt, sem1, sem2, semSl, opInt, truth, isOl, outs, backs, endF, alB, runF, startE, items, pick, List.length_cons, List.length_nil, List.cons_append, List.nil_append, List.replicate, List.map, Nat.reduceSub, Nat.reduceAdd, Nat.reduceBEq, Nat.reduceEqDiff, Bool.and_true, Bool.true_and, if_true, if_false, beq_self_eq_true, decide_true, decide_false, reduceIte, Bool.false_eq_true, cx_fn, Option.map_some, Option.bind_some, e4, backs]
    rw [w]
    simp only [Rs.bind_ok]
    rw [hx]
    exact e5
  obtain ⟨v, hv, a6, b6, c6, e6⟩ := one n a5 b5 c5 [.int 1, .int 2, .int 3, .int 10] (by simp) (by simp)
  have hv' : ∃ u : Int, v = .int u ∧ 0 < u ∧ u ≤ 10 := by
    simp only [List.mem_cons, List.not_mem_nil, or_false] at hv
    rcases hv with rfl | rfl | rfl | rfl <;> exact ⟨_, rfl, by omega, by omega⟩
  obtain ⟨u, rfl, u1, u2⟩ := hv'
  obtain ⟨f, a7, b7, c7, f1, f2, e7⟩ := dip (n + 1) a6 b6 c6 u u1 (by omega)
  obtain ⟨ss', es⟩ := snd_of ((ss.map Snd.d).mergeSort leD) fun y hy => by
    rw [List.mem_mergeSort] at hy
    obtain ⟨s, _, rfl⟩ := List.mem_map.mp hy
    exact ⟨s, rfl⟩
  have lss : ss'.length = ss.length := by
    have := congrArg List.length es
    rw [List.length_mergeSort, List.length_map, List.length_map] at this
    exact this.symm
  have sl' : ss.length = xs.length := by rw [sl]; simp
  refine ⟨⟨hs, f, ss'⟩, ⟨by show 1 ≤ hs.length; omega, by show hs.length ≤ 60; omega, fun i hi => ?_, f1, by show f ≤ 9; omega, by show ss'.length ≤ 12; omega, fun s hs' => ?_, ?_⟩, ⟨by show (hs.length : Int) ≤ days; omega, by show (ss'.length : Int) ≤ most; omega⟩, a7, b7, c7, ?_⟩
  · have := hb i hi
    omega
  · have : s.d ∈ ss.map Snd.d := by
      rw [← List.mem_mergeSort (le := leD), es]
      exact List.mem_map_of_mem hs'
    obtain ⟨t, ht, e⟩ := List.mem_map.mp this
    rw [← Snd.d_inj e]
    have := sok t ht
    show t.ok (hs.length : Int)
    rw [hl, show ((1 + r1).toNat : Int) = 1 + r1 by omega]
    exact this
  · show (ss'.map Snd.d).mergeSort leD = ss'.map Snd.d
    rw [← es]
    exact List.mergeSort_of_pairwise (sorted_again _)
  · exact sem16 n a b c days most r1 a1 b1 c1 wide a2 b2 c2 a3 b3 c3 hs s8 s9 s10 a5 b5 c5 u a6 b6 c6 f a7 b7 c7 ss ss' e1 e2 e3 ef e6 e7 es
end MP
namespace MP
/-! what is in time -/
theorem inT_nil (x : Dues) : inT x = true ↔ foundL x = [] := by
  unfold inT headL
  have h := found_pairs x
  generalize foundL x = l at *
  cases l with
  | nil => simp [isNon]
  | cons y l =>
    obtain ⟨p, q, rfl⟩ := h y List.mem_cons_self
    simp [isNon]
theorem inT_mono (x y : Dues) (hl : x.hs.length = y.hs.length) (h : ∀ p q, lateB x p q = false → lateB y p q = false) (hx : inT x = true) : inT y = true := by
  rw [inT_nil] at hx ⊢
  unfold foundL at hx ⊢
  rw [← hl]
  rw [List.flatMap_eq_nil_iff] at hx ⊢
  intro r hr
  have h1 := hx r hr
  cases r with
  | int p =>
    simp only [fL, List.filterMap_eq_nil_iff] at h1 ⊢
    intro u hu
    have h2 := h1 u hu
    cases u with
    | int q =>
      simp only [gL] at h2 ⊢
      cases hb : lateB x p q with
      | true => rw [hb] at h2; simp at h2
      | false => rw [h p q hb]; rfl
    | _ => rfl
  | _ => rfl
theorem inT_all (x : Dues) (h : ∀ p q, lateB x p q = false) : inT x = true := by
  rw [inT_nil]
  unfold foundL
  rw [List.flatMap_eq_nil_iff]
  intro r hr
  cases r with
  | int p =>
    simp only [fL, List.filterMap_eq_nil_iff]
    intro u hu
    cases u with
    | int q =>
      simp only [gL]
      rw [h p q]; rfl
    | _ => rfl
  | _ => rfl
theorem inT_fails (hs : List Int) (ss : List Snd) (m : Int) (h0 : ∀ i ∈ hs, 0 ≤ i) (hm : 0 ≤ m) (h : inT ⟨hs, m + 1, ss⟩ = true) : inT ⟨hs, m, ss⟩ = true := by
  refine inT_mono ⟨hs, m + 1, ss⟩ ⟨hs, m, ss⟩ rfl (fun p q hb => ?_) h
  simp only [lateB, decide_eq_false_iff_not] at hb ⊢
  have := rest_fails hs m p q h0 hm
  omega
theorem inT_hands (g : Int → Int) (hg : ∀ a b, a ≤ b → g a ≤ g b) (x : Dues) (hx : ∀ i ∈ x.hs, i ≤ g i) (h : inT x = true) : inT ⟨x.hs.map g, x.f, x.ss⟩ = true := by
  refine inT_mono x ⟨x.hs.map g, x.f, x.ss⟩ (by simp) (fun p q hb => ?_) h
  simp only [lateB, decide_eq_false_iff_not] at hb ⊢
  have := rest_hands g hg x.hs x.f p q hx
  omega
theorem inT_tail (hs : List Int) (f : Int) (s : Snd) (ss : List Snd) (hc : 0 ≤ s.c) (h : inT ⟨hs, f, s :: ss⟩ = true) : inT ⟨hs, f, ss⟩ = true := by
  refine inT_mono ⟨hs, f, s :: ss⟩ ⟨hs, f, ss⟩ rfl (fun p q hb => ?_) h
  simp only [lateB, decide_eq_false_iff_not] at hb ⊢
  have := want_tail s ss p q hc
  omega
theorem inT_none (hs : List Int) (f : Int) (h0 : ∀ i ∈ hs, 0 ≤ i) : inT ⟨hs, f, []⟩ = true := by
  refine inT_all _ fun p q => ?_
  show decide (restI hs f p q < wantI [] p q) = false
  rw [want_nil, decide_eq_false_iff_not]
  have := rest_nonneg hs f p q h0
  omega
theorem step_k (b : Nat → Bool) : ∀ N, (∀ m, m + 1 < N → b (m + 1) = true → b m = true) → ∃ k, k ≤ N ∧ ∀ m, m < N → b m = decide (m < k)
  | 0, _ => ⟨0, Nat.le_refl _, fun m h => absurd h (Nat.not_lt_zero _)⟩
  | N + 1, h => by
    obtain ⟨k, hk, e⟩ := step_k b N fun m hm => h m (by omega)
    cases hb : b N with
    | true =>
      have all : ∀ j, j ≤ N → b (N - j) = true := fun j => by
        induction j with
        | zero => intro _; exact hb
        | succ j ih =>
          intro hj
          have h1 := ih (by omega)
          have e2 : N - j = (N - (j + 1)) + 1 := by omega
          rw [e2] at h1
          exact h (N - (j + 1)) (by omega) h1
      refine ⟨N + 1, Nat.le_refl _, fun m hm => ?_⟩
      have := all (N - m) (by omega)
      rw [show N - (N - m) = m by omega] at this
      rw [this, decide_eq_true hm]
    | false =>
      refine ⟨k, by omega, fun m hm => ?_⟩
      by_cases c : m < N
      · exact e m c
      · have : m = N := by omega
        subst this
        rw [hb]
        exact (decide_eq_false (by omega)).symm
theorem some_k (hs : List Int) (ss : List Snd) (h0 : ∀ i ∈ hs, 0 ≤ i) : ∃ k : Nat, k ≤ 10 ∧ (∀ m : Nat, m < 10 → inT ⟨hs, m, ss⟩ = decide (m < k)) := step_k (fun m => inT ⟨hs, m, ss⟩) 10 fun m _ h => inT_fails hs ss m h0 (by omega) h
theorem range_fm {α : Type} (f : Nat → α) (k : Nat) : ∀ N, k ≤ N → (List.range N).filterMap (fun i => if i < k then some (f i) else none) = (List.range k).map f := by
  intro N
  induction N with
  | zero => intro h; obtain rfl : k = 0 := by omega
            rfl
  | succ N ih =>
    intro h
    rw [List.range_succ, List.filterMap_append]
    by_cases c : k ≤ N
    · rw [ih c]
      simp only [List.filterMap_cons, List.filterMap_nil, if_neg (show ¬ N < k by omega), List.append_nil]
    · have e : k = N + 1 := by omega
      subst e
      rw [List.range_succ, List.map_append]
      congr 1
      · rw [← List.filterMap_eq_map]
        refine fm_congr _ fun i hi => ?_
        rw [List.mem_range] at hi
        rw [if_pos (by omega)]
        rfl
      · simp
theorem someL_k (x : Dues) (k : Nat) (hk : k ≤ 10) (h : ∀ m : Nat, m < 10 → inT ⟨x.hs, m, x.ss⟩ = decide (m < k)) : someL x = rangeD 0 k := by
  unfold someL rangeD
  rw [List.filterMap_map]
  have e := range_fm (fun i : Nat => D.int (0 + (i : Int))) k 10 hk
  rw [show (((k : Nat) : Int) - 0).toNat = k by omega, show ((10 : Int) - 0).toNat = 10 from rfl, ← e]
  refine fm_congr _ fun i hi => ?_
  rw [List.mem_range] at hi
  show (if inT ⟨x.hs, 0 + (i : Int), x.ss⟩ then some (D.int (0 + (i : Int))) else none) = _
  rw [Int.zero_add, h i hi]
  simp only [decide_eq_true_eq]
theorem k_cases {k : Nat} (h : k ≤ 10) : k = 0 ∨ k = 1 ∨ k = 2 ∨ k = 3 ∨ k = 4 ∨ k = 5 ∨ k = 6 ∨ k = 7 ∨ k = 8 ∨ k = 9 ∨ k = 10 := by omega
def dueD (k : Nat) : D := if k = 0 then .non else .int ((k : Int) - 1)
theorem last_k {k : Nat} (h : k ≤ 10) : lastD (rangeD 0 k) = dueD k := by
  rcases k_cases h with rfl | rfl | rfl | rfl | rfl | rfl | rfl | rfl | rfl | rfl | rfl <;> rfl
theorem mx_k {k : Nat} (h : k ≤ 10) (h0 : k ≠ 0) : sem1 .mx (.lst (rangeD 0 k)) = some (.d (dueD k)) := by
  rcases k_cases h with rfl | rfl | rfl | rfl | rfl | rfl | rfl | rfl | rfl | rfl | rfl
  · exact absurd rfl h0
  all_goals rfl
theorem okShow_due {k : Nat} (h : k ≤ 10) : okShow (.lst [dueD k, dueD k]) = true := by
  rcases k_cases h with rfl | rfl | rfl | rfl | rfl | rfl | rfl | rfl | rfl | rfl | rfl <;> decide
theorem okEq_rng {k : Nat} (h : k ≤ 10) : okEq (.lst (rangeD 0 k)) = true := by
  rcases k_cases h with rfl | rfl | rfl | rfl | rfl | rfl | rfl | rfl | rfl | rfl | rfl <;> rfl
theorem eqv_rng {k : Nat} (h : k ≤ 10) : D.eqv (.lst (rangeD 0 k)) (.lst (rangeD 0 k)) = true := by
  rcases k_cases h with rfl | rfl | rfl | rfl | rfl | rfl | rfl | rfl | rfl | rfl | rfl <;> rfl
theorem eqv_rng0 {k : Nat} (h0 : k ≠ 0) : D.eqv (.lst (rangeD 0 k)) (.lst []) = false := by
  cases k with
  | zero => exact absurd rfl h0
  | succ k =>
    have : rangeD 0 ((k + 1 : Nat) : Int) = D.int (0 + ((0 : Nat) : Int)) :: ((List.range k).map Nat.succ).map fun i => D.int (0 + ((i : Nat) : Int)) := by
      unfold rangeD
      rw [show (((k + 1 : Nat) : Int) - 0).toNat = k + 1 by omega, List.range_succ_eq_map]
      rfl
    rw [this]
    rfl
theorem any_rng (k : Nat) (m : Nat) : (rangeD 0 k).any (fun y => D.eqv y (.int m)) = decide (m < k) := by
  unfold rangeD
  rw [show (((k : Nat) : Int) - 0).toNat = k by omega]
  rw [Bool.eq_iff_iff, List.any_eq_true, decide_eq_true_eq]
  constructor
  · rintro ⟨y, hy, e⟩
    obtain ⟨j, hj, rfl⟩ := List.mem_map.mp hy
    rw [List.mem_range] at hj
    simp only [D.eqv, beq_iff_eq] at e
    omega
  · intro h
    exact ⟨_, List.mem_map.mpr ⟨m, List.mem_range.mpr h, rfl⟩, by simp [D.eqv]⟩
def blK (k : Nat) : List D := (List.range 10).map fun i => D.bl (decide (i < k))
theorem blK_eq (k : Nat) : blK k = ((List.range 10).map fun i => decide (i < k)).map .bl := by
  unfold blK
  rw [List.map_map]
  rfl
theorem okEq_blK (k : Nat) : okEq (.lst (blK k)) = true := by
  rw [blK_eq]
  exact okEq_bls _
theorem eqv_blK (k : Nat) : D.eqv (.lst (blK k)) (.lst (blK k)) = true := by
  rw [blK_eq]
  exact eqv_bls _
end MP
namespace MP
/-! right -/
abbrev ev19 (W : List D) (T X : D) (hs : List Int) (f : Int) (ss : List Snd) (s6 s7 s8 s9 s10 : Sl) : Env := [.ol true W, .d T, .d X, .d (tupI hs), .d (.int f), .d (.tup (ss.map Snd.d)), s6, s7, s8, s9, s10]
theorem rng_lit (C : Ctx) (ρ : Env) (m : Int) (ok : rngOk 0 m = true) : evI C (.rng1 (.lit (.int m))) ρ = .ok (rangeD 0 m, ρ) := rng1_eq (by simp only [evE]) ok
theorem in_rng {y : D} {m : Nat} (h : y ∈ rangeD 0 m) : ∃ j : Nat, j < m ∧ y = .int j := by
  simp only [rangeD, List.mem_map, List.mem_range] at h
  obtain ⟨j, hj, rfl⟩ := h
  exact ⟨j, by omega, by rw [Int.zero_add]⟩
theorem st19_0 (n : Nat) (w t x hd f sd : D) (W : List D) (s6 s7 s8 s9 s10 : Sl) (y : D) (m : Int) (el : inf.pg.sem (n + 2) 18 [.d (.tup [hd, .int m, sd])] = .ok (.d y, [])) : stepL (cx (n + 2)) (.name 7) (.tr (.u1 (.isN) (.call 18 (.cons (.tup (.cons (.var 3) (.cons (.var 7) (.cons (.var 5) (.nil))))) (.nil))))) (.var 7) [7] (.int m) [.ol true W, .d t, .d x, .d hd, .d f, .d sd, s6, s7, s8, s9, s10] = .ok (if isNon y then some (.int m) else none, [.ol true W, .d t, .d x, .d hd, .d f, .d sd, s6, .d (.int m), s8, s9, s10]) := by
  have b3 : (3 : Nat) ≤ line := by unfold line; omega
  cases hy : isNon y with
  | true => simp [stepL, evE, evT, evA, evO, evC_nil, evC_t, evC_f, evC_e, evP, evI, exC, Rs.bind_ok, Rs.bind_st, Rs.calm_ok, ofO_some, ofO_none, rd, tk, at0, at1, set0, set1, put, puts, asgT, asgTs, setAt, sem1, sem2, semSl, opInt, truth, isOl, outs, backs, endF, alB, runF, startE, items, pick, List.length_cons, List.length_nil, List.cons_append, List.nil_append, List.replicate, List.map, Nat.reduceSub, Nat.reduceAdd, Nat.reduceBEq, Nat.reduceEqDiff, Bool.and_true, Bool.true_and, if_true, if_false, beq_self_eq_true, decide_true, decide_false, reduceIte, Bool.false_eq_true, cx_fn, Option.map_some, Option.bind_some, wipeE, el, backs, b3, hy]
  | false => simp [stepL, evE, evT, evA, evO, evC_nil, evC_t, evC_f, evC_e, evP, evI, exC, Rs.bind_ok, Rs.bind_st, Rs.calm_ok, ofO_some, ofO_none, rd, tk, at0, at1, set0, set1, put, puts, asgT, asgTs, setAt, sem1, sem2, semSl, opInt, truth, isOl, outs, backs, endF, alB, runF, startE, items, pick, List.length_cons, List.length_nil, List.cons_append, List.nil_append, List.replicate, List.map, Nat.reduceSub, Nat.reduceAdd, Nat.reduceBEq, Nat.reduceEqDiff, Bool.and_true, Bool.true_and, if_true, if_false, beq_self_eq_true, decide_true, decide_false, reduceIte, Bool.false_eq_true, cx_fn, Option.map_some, Option.bind_some, wipeE, el, backs, b3, hy]
theorem l19_0 (n : Nat) (W : List D) (T X : D) (hs : List Int) (f : Int) (ss : List Snd) (s6 s8 s9 : Sl) (h2 : hs.length ≤ 60) (s1 : ss.length ≤ 12) : evE (cx (n + 2)) l_19_0 (ev19 W T X hs f ss s6 .un s8 s9 .un) = .ok (.nw (someL ⟨hs, f, ss⟩), ev19 W T X hs f ss s6 .un s8 s9 .un) := by
  rw [l_19_0]
  refine lc_fm (fun ρ => ∃ s, ρ = ev19 W T X hs f ss s6 s s8 s9 .un) (bearL hs ss) (rng_lit _ _ 10 (by decide)) rfl rlen10 ⟨.un, rfl⟩ (fun y hy ρ ⟨s, e⟩ => ?_) (fun ρ' ⟨s, e⟩ => by subst e; rfl)
  subst e
  obtain ⟨j, hj, rfl⟩ := in_rng (m := 10) hy
  have e := st19_0 n (.non) T X (tupI hs) (.int f) (.tup (ss.map Snd.d)) W s6 s s8 s9 .un (headL ⟨hs, j, ss⟩) j (lawlate n ⟨hs, j, ss⟩ s1 h2 (by show (0 : Int) ≤ j; omega))
  exact ⟨_, e, .d (.int j), rfl⟩
theorem st19_1 (n : Nat) (t x hd f sd : D) (W : List D) (s6 s7 s8 s9 s10 : Sl) (b : Bool) (m : Int) (el : inf.pg.sem (n + 7) 9 [.d (.tup [hd, .int m, sd])] = .ok (.d (.bl b), [])) : stepL (cx (n + 7)) (.name 7) (.omit) (.call 9 (.cons (.tup (.cons (.var 3) (.cons (.var 7) (.cons (.var 5) (.nil))))) (.nil))) [7] (.int m) [.ol true W, .d t, .d x, .d hd, .d f, .d sd, s6, s7, s8, s9, s10] = .ok (some (.bl b), [.ol true W, .d t, .d x, .d hd, .d f, .d sd, s6, .d (.int m), s8, s9, s10]) := by
  have b3 : (3 : Nat) ≤ line := by unfold line; omega
  simp [stepL, evE, evT, evA, evO, evC_nil, evC_t, evC_f, evC_e, evP, evI, exC, Rs.bind_ok, Rs.bind_st, Rs.calm_ok, ofO_some, ofO_none, rd, tk, at0, at1, set0, set1, put, puts, asgT, asgTs, setAt, sem1, sem2, semSl, opInt, truth, isOl, outs, backs, endF, alB, runF, startE, items, pick, List.length_cons, List.length_nil, List.cons_append, List.nil_append, List.replicate, List.map, Nat.reduceSub, Nat.reduceAdd, Nat.reduceBEq, Nat.reduceEqDiff, Bool.and_true, Bool.true_and, if_true, if_false, beq_self_eq_true, decide_true, decide_false, reduceIte, Bool.false_eq_true, cx_fn, Option.map_some, Option.bind_some, wipeE, el, backs, b3]
theorem fm_blK {g : D → Option D} (k : Nat) (h : ∀ j : Nat, j < 10 → g (.int j) = some (.bl (decide (j < k)))) : (rangeD 0 10).filterMap g = blK k := by
  unfold rangeD blK
  rw [List.filterMap_map, ← List.filterMap_eq_map]
  refine fm_congr _ fun i hi => ?_
  rw [List.mem_range] at hi
  show g (.int (0 + (i : Int))) = _
  rw [Int.zero_add, h i (by omega)]
  rfl
def gBl (b : Nat → Bool) : D → Option D
  | .int m => some (.bl (b m.toNat))
  | _ => none
theorem l19_1 (n : Nat) (W : List D) (T X : D) (x : Dues) (o : x.Ok) (k : Nat) (hk : ∀ m : Nat, m < 10 → inT ⟨x.hs, m, x.ss⟩ = decide (m < k)) (s6 s8 s9 : Sl) : evE (cx (n + 7)) l_19_1 (ev19 W T X x.hs x.f x.ss s6 .un s8 s9 .un) = .ok (.nw (blK k), ev19 W T X x.hs x.f x.ss s6 .un s8 s9 .un) := by
  rw [l_19_1, ← fm_blK (g := gBl fun m => inT ⟨x.hs, m, x.ss⟩) k (fun j hj => by
    show some (D.bl (inT ⟨x.hs, ((j : Int).toNat : Nat), x.ss⟩)) = _
    rw [Int.toNat_natCast, hk j hj])]
  refine lc_fm (fun ρ => ∃ s, ρ = ev19 W T X x.hs x.f x.ss s6 s s8 s9 .un) (gBl fun m => inT ⟨x.hs, m, x.ss⟩) (rng_lit _ _ 10 (by decide)) rfl rlen10 ⟨.un, rfl⟩ (fun y hy ρ ⟨s, e⟩ => ?_) (fun ρ' ⟨s, e⟩ => by subst e; rfl)
  subst e
  obtain ⟨j, hj, rfl⟩ := in_rng (m := 10) hy
  have e := st19_1 n T X (tupI x.hs) (.int x.f) (.tup (x.ss.map Snd.d)) W s6 s s8 s9 .un (inT ⟨x.hs, j, x.ss⟩) j (intime n ⟨x.hs, j, x.ss⟩ ⟨o.h1, o.h2, o.h3, by show (0 : Int) ≤ j; omega, by show (j : Int) ≤ 9; omega, o.s1, o.s2, o.s3⟩)
  exact ⟨_, e, .d (.int j), rfl⟩
theorem st19_2 (C : Ctx) (t x hd f sd : D) (W l : List D) (s7 s8 s9 s10 : Sl) (m : Int) (b : Bool) (q : okEq (.lst l) = true) (hb : (l.any fun y => D.eqv y (.int m)) = b) : stepL C (.name 7) (.omit) (.u2 (.inn) (.var 7) (.var 6)) [7] (.int m) [.ol true W, .d t, .d x, .d hd, .d f, .d sd, .ol false l, s7, s8, s9, s10] = .ok (some (.bl b), [.ol true W, .d t, .d x, .d hd, .d f, .d sd, .ol false l, .d (.int m), s8, s9, s10]) := by
  have e1 : sem2 .inn (.int m) (.lst l) = some (.d (.bl b)) := by
    show (if okEq (.int m) && okEq (.lst l) then some (Op.d (.bl (l.any fun y => D.eqv y (.int m)))) else none) = _
    rw [q, hb]; rfl
  have e2 : evE C (.u2 (.inn) (.var 7) (.var 6)) [.ol true W, .d t, .d x, .d hd, .d f, .d sd, .ol false l, .d (.int m), s8, s9, s10] = .ok (.d (.bl b), [.ol true W, .d t, .d x, .d hd, .d f, .d sd, .ol false l, .d (.int m), s8, s9, s10]) := by
    simp only [evE, at0, at1, Rs.bind_ok, rd, ofO_some, e1]
  simp only [stepL, asgT, put, wipeE, List.foldl, set0, set1, at0, at1, ofO_some, Rs.bind_ok, evT, if_true, e2, tk]
theorem l19_2 (C : Ctx) (W : List D) (T X : D) (hs : List Int) (f : Int) (ss : List Snd) (k : Nat) (h10 : k ≤ 10) (s8 s9 : Sl) : evE C l_19_2 (ev19 W T X hs f ss (.ol false (rangeD 0 k)) .un s8 s9 .un) = .ok (.nw (blK k), ev19 W T X hs f ss (.ol false (rangeD 0 k)) .un s8 s9 .un) := by
  rw [l_19_2, ← fm_blK (g := gBl fun m => decide (m < k)) k (fun j hj => by
    show some (D.bl (decide ((j : Int).toNat < k))) = _
    rw [Int.toNat_natCast])]
  refine lc_fm (fun ρ => ∃ s, ρ = ev19 W T X hs f ss (.ol false (rangeD 0 k)) s s8 s9 .un) (gBl fun m => decide (m < k)) (rng_lit _ _ 10 (by decide)) rfl rlen10 ⟨.un, rfl⟩ (fun y hy ρ ⟨s, e⟩ => ?_) (fun ρ' ⟨s, e⟩ => by subst e; rfl)
  subst e
  obtain ⟨j, hj, rfl⟩ := in_rng (m := 10) hy
  have e := st19_2 C T X (tupI hs) (.int f) (.tup (ss.map Snd.d)) W (rangeD 0 k) s s8 s9 .un j _ (okEq_rng h10) (any_rng k j)
  exact ⟨_, e, .d (.int j), rfl⟩
theorem r19 (C : Ctx) (W : List D) (T X : D) (hs : List Int) (f : Int) (ss : List Snd) (k : Nat) (h10 : k ≤ 10) (s7 s8 s9 s10 : Sl) : evE C r_19_0 (ev19 W T X hs f ss (.ol false (rangeD 0 k)) s7 s8 s9 s10) = .ok (.nw (rangeD 0 k), ev19 W T X hs f ss (.ol false (rangeD 0 k)) s7 s8 s9 s10) := by
  rw [r_19_0]
  have l : (rangeD 0 k).length = k := by rw [rlen]; omega
  refine lrg1_eq ?_ (by simp [rngOk]; omega) (by rw [l]; unfold line; omega)
  have e : sem1 .len (.lst (rangeD 0 k)) = some (.d (.int k)) := by
    show some (Op.d (.int ((rangeD 0 k).length : Nat))) = _
    rw [l]
  simp only [evE, at0, at1, Rs.bind_ok, rd, ofO_some, e]
theorem st19_3 (C : Ctx) (t x hd f sd : D) (W : List D) (s6 s7 s8 s9 s10 : Sl) (m : Int) : stepL C (.name 10) (.omit) (.u2 (.add) (.var 10) (.lit (.int 1))) [10] (.int m) [.ol true W, .d t, .d x, .d hd, .d f, .d sd, s6, s7, s8, s9, s10] = .ok (some (.int (m + 1)), [.ol true W, .d t, .d x, .d hd, .d f, .d sd, s6, s7, s8, s9, .d (.int m)]) := by
  simp [stepL, evE, evT, evA, evO, evC_nil, evC_t, evC_f, evC_e, evP, evI, exC, Rs.bind_ok, Rs.bind_st, Rs.calm_ok, ofO_some, ofO_none, rd, tk, at0, at1, set0, set1, put, puts, asgT, asgTs, setAt, sem1, sem2, semSl, opInt, truth, isOl, outs, backs, endF, alB, runF, startE, items, pick, List.length_cons, List.length_nil, List.cons_append, List.nil_append, List.replicate, List.map, Nat.reduceSub, Nat.reduceAdd, Nat.reduceBEq, Nat.reduceEqDiff, Bool.and_true, Bool.true_and, if_true, if_false, beq_self_eq_true, decide_true, decide_false, reduceIte, Bool.false_eq_true, cx_fn, Option.map_some, Option.bind_some, wipeE]
def gMap (g : Int → Int) : D → Option D
  | .int m => some (.int (g m))
  | _ => none
theorem fm_map (g : Int → Int) (l : List Int) : (l.map D.int).filterMap (gMap g) = (l.map g).map D.int := by
  rw [List.filterMap_map, List.map_map, ← List.filterMap_eq_map]
  rfl
theorem walk_tup (C : Ctx) (i : Nat) (l : List D) (ρ : Env) (h : ρ.at i = .d (.tup l)) : evI C (.walk (.var i)) ρ = .ok (l, ρ) := by
  simp only [evI, evE, h, Rs.bind_ok, tk, ofO_some, items]
theorem l19_3 (C : Ctx) (W : List D) (T X : D) (hs : List Int) (f : Int) (ss : List Snd) (h60 : hs.length ≤ 60) (s6 s7 s8 s9 : Sl) : evE C l_19_3 (ev19 W T X hs f ss s6 s7 s8 s9 .un) = .ok (.nw ((hs.map (· + 1)).map .int), ev19 W T X hs f ss s6 s7 s8 s9 .un) := by
  rw [l_19_3, ← fm_map]
  refine lc_fm (fun ρ => ∃ s, ρ = ev19 W T X hs f ss s6 s7 s8 s9 s) (gMap (· + 1)) (walk_tup _ 3 _ _ rfl) rfl (by rw [List.length_map]; unfold line; omega) ⟨.un, rfl⟩ (fun y hy ρ ⟨s, e⟩ => ?_) (fun ρ' ⟨s, e⟩ => by subst e; rfl)
  subst e
  obtain ⟨j, hj, rfl⟩ := List.mem_map.mp hy
  exact ⟨_, st19_3 C T X (tupI hs) (.int f) (.tup (ss.map Snd.d)) W s6 s7 s8 s9 s j, .d (.int j), rfl⟩
def mn999 (m : Int) : Int := if m < 999 then m else 999
theorem st19_4 (C : Ctx) (t x hd f sd : D) (W : List D) (s6 s7 s8 s9 s10 : Sl) (m : Int) : stepL C (.name 10) (.omit) (.u2 (.mn) (.lit (.int 999)) (.var 10)) [10] (.int m) [.ol true W, .d t, .d x, .d hd, .d f, .d sd, s6, s7, s8, s9, s10] = .ok (some (.int (mn999 m)), [.ol true W, .d t, .d x, .d hd, .d f, .d sd, s6, s7, s8, s9, .d (.int m)]) := by
  have e1 : sem2 .mn (.int 999) (.int m) = some (.d (.int (mn999 m))) := rfl
  have e2 : evE C (.u2 (.mn) (.lit (.int 999)) (.var 10)) [.ol true W, .d t, .d x, .d hd, .d f, .d sd, s6, s7, s8, s9, .d (.int m)] = .ok (.d (.int (mn999 m)), [.ol true W, .d t, .d x, .d hd, .d f, .d sd, s6, s7, s8, s9, .d (.int m)]) := by
    simp only [evE, at0, at1, Rs.bind_ok, rd, ofO_some, e1]
  simp only [stepL, asgT, put, wipeE, List.foldl, set0, set1, at0, at1, ofO_some, Rs.bind_ok, evT, if_true, e2, tk]
theorem l19_4 (C : Ctx) (W : List D) (T X : D) (hs : List Int) (f : Int) (ss : List Snd) (l : List Int) (h60 : l.length ≤ 60) (s6 s7 s8 : Sl) : evE C l_19_4 (ev19 W T X hs f ss s6 s7 s8 (.d (tupI l)) .un) = .ok (.nw ((l.map mn999).map .int), ev19 W T X hs f ss s6 s7 s8 (.d (tupI l)) .un) := by
  rw [l_19_4, ← fm_map]
  refine lc_fm (fun ρ => ∃ s, ρ = ev19 W T X hs f ss s6 s7 s8 (.d (tupI l)) s) (gMap mn999) (walk_tup _ 9 _ _ rfl) rfl (by rw [List.length_map]; unfold line; omega) ⟨.un, rfl⟩ (fun y hy ρ ⟨s, e⟩ => ?_) (fun ρ' ⟨s, e⟩ => by subst e; rfl)
  subst e
  obtain ⟨j, hj, rfl⟩ := List.mem_map.mp hy
  exact ⟨_, st19_4 C T X (tupI hs) (.int f) (.tup (ss.map Snd.d)) W s6 s7 s8 (.d (tupI l)) s j, .d (.int j), rfl⟩
end MP
namespace MP
theorem seq_ok {C : Ctx} {a b : Cm} {ρ ρ1 : Env} (h : exC C a ρ = .ok (.nx, ρ1)) : exC C (.seq a b) ρ = exC C b ρ1 := by simp only [exC, h, Rs.bind_ok]
theorem iff_ff {C : Ctx} {c : Ex} {a : Cm} {ρ ρ1 : Env} (h : evT C c ρ = .ok (false, ρ1)) : exC C (.iff c a .skip) ρ = .ok (.nx, ρ1) := by
  simp only [exC, h, Rs.bind_ok]
  rfl
abbrev E19 (W : List D) (t x hd f sd : D) (s6 s7 s8 s9 s10 : Sl) : Env := [.ol true W, .d t, .d x, .d hd, .d f, .d sd, s6, s7, s8, s9, s10]
theorem body19 (n : Nat) (W W' L B M M4 : List D) (t hd due h : D) (f : Int) (SS : List D) (s1 s2 s3 s4 s5 s6 s8 s9 : Sl) (i : Bool)
    (e16 : inf.pg.sem (n + 7) 16 [.ol true W, .d (.int 12), .d (.int 8)] = .ok (.d (.tup [hd, .int f, .tup SS]), [W']))
    (e0 : ∀ s6 s8 s9, evE (cx (n + 7)) l_19_0 (E19 W' t (.tup [hd, .int f, .tup SS]) hd (.int f) (.tup SS) s6 .un s8 s9 .un) = .ok (.nw L, E19 W' t (.tup [hd, .int f, .tup SS]) hd (.int f) (.tup SS) s6 .un s8 s9 .un))
    (qL : okEq (.lst L) = true) (vL : D.eqv (.lst L) (.lst L) = true) (hdue : (L = [] ∧ due = .non) ∨ (D.eqv (.lst L) (.lst []) = false ∧ sem1 .mx (.lst L) = some (.d due)))
    (e11 : inf.pg.sem (n + 7) 11 [.d (.tup [hd, .int f, .tup SS])] = .ok (.d due, [])) (oS : okShow (.lst [due, due]) = true)
    (e1 : ∀ s6 s8 s9, evE (cx (n + 7)) l_19_1 (E19 W' t (.tup [hd, .int f, .tup SS]) hd (.int f) (.tup SS) s6 .un s8 s9 .un) = .ok (.nw B, E19 W' t (.tup [hd, .int f, .tup SS]) hd (.int f) (.tup SS) s6 .un s8 s9 .un))
    (e2 : ∀ s8 s9, evE (cx (n + 7)) l_19_2 (E19 W' t (.tup [hd, .int f, .tup SS]) hd (.int f) (.tup SS) (.ol false L) .un s8 s9 .un) = .ok (.nw B, E19 W' t (.tup [hd, .int f, .tup SS]) hd (.int f) (.tup SS) (.ol false L) .un s8 s9 .un))
    (qB : okEq (.lst B) = true) (vB : D.eqv (.lst B) (.lst B) = true)
    (er : ∀ s8 s9, evE (cx (n + 7)) r_19_0 (E19 W' t (.tup [hd, .int f, .tup SS]) hd (.int f) (.tup SS) (.ol false L) .un s8 s9 .un) = .ok (.nw L, E19 W' t (.tup [hd, .int f, .tup SS]) hd (.int f) (.tup SS) (.ol false L) .un s8 s9 .un))
    (e9 : inf.pg.sem (n + 7) 9 [.d (.tup [hd, .int f, .tup SS])] = .ok (.d (.bl i), [])) (e10 : inf.pg.sem (n + 7) 10 [.d (.tup [hd, .int f, .tup SS])] = .ok (.d h, [])) (hi : isNon h = i)
    (e11n : inf.pg.sem (n + 7) 11 [.d (.tup [hd, .int f, .tup []])] = .ok (.d (.int 9), []))
    (e3 : ∀ s6 s8 s9, evE (cx (n + 7)) l_19_3 (E19 W' t (.tup [hd, .int f, .tup SS]) hd (.int f) (.tup SS) s6 .un s8 s9 .un) = .ok (.nw M, E19 W' t (.tup [hd, .int f, .tup SS]) hd (.int f) (.tup SS) s6 .un s8 s9 .un))
    (e4 : ∀ s6 s8, evE (cx (n + 7)) l_19_4 (E19 W' t (.tup [hd, .int f, .tup SS]) hd (.int f) (.tup SS) s6 .un s8 (.d (.tup M)) .un) = .ok (.nw M4, E19 W' t (.tup [hd, .int f, .tup SS]) hd (.int f) (.tup SS) s6 .un s8 (.d (.tup M)) .un))
    (e9m : i = true → inf.pg.sem (n + 7) 9 [.d (.tup [.tup M4, .int f, .tup SS])] = .ok (.d (.bl true), []))
    (qs : okEq (.tup SS) = true) (e9t : i = true → ∀ y Y, SS = y :: Y → inf.pg.sem (n + 7) 9 [.d (.tup [hd, .int f, .tup Y])] = .ok (.d (.bl true), [])) :
    bodyF (cx (n + 7)) (.name 1) g_19_5 t [.ol true W, s1, s2, s3, s4, s5, s6, .un, s8, s9, .un] = .ok (.nx, E19 W' t (.tup [hd, .int f, .tup SS]) hd (.int f) (.tup SS) (.ol false L) .un (.d due) (.d (.tup M)) .un) := by
  have b3 : (3 : Nat) ≤ line := by unfold line; omega
  have b2 : (2 : Nat) ≤ line := by unfold line; omega
  have b0 : (0 : Nat) ≤ line := by unfold line; omega
  simp only [E19] at *
  rw [bodyF_ok (ρ2 := [.ol true W, .d t, s2, s3, s4, s5, s6, .un, s8, s9, .un]) rfl, g_19_5]
  rw [seq_ok (ρ1 := [.ol true W', .d t, .d (.tup [hd, .int f, .tup SS]), s3, s4, s5, s6, .un, s8, s9, .un]) (by simp -implicitDefEqProofs [evE, evT, evA, evO, evC_nil, evC_t, evC_f, evC_e, evP, evI, exC, Rs.bind_ok, Rs.bind_st, Rs.calm_ok, ofO_some, ofO_none, rd, tk, at0, at1, set0, set1, put, puts, asgT, asgTs, setAt, sem1, sem2, semSl, opInt, truth, isOl, outs, backs, endF, alB, runF, startE, items, pick, List.length_cons, List.length_nil, List.cons_append, List.nil_append, List.replicate, List.map, Nat.reduceSub, Nat.reduceAdd, Nat.reduceBEq, Nat.reduceEqDiff, Bool.and_true, Bool.true_and, if_true, if_false, beq_self_eq_true, decide_true, decide_false, reduceIte, Bool.false_eq_true, cx_fn, Option.map_some, Option.bind_some, e16, backs])]
  rw [seq_ok (ρ1 := [.ol true W', .d t, .d (.tup [hd, .int f, .tup SS]), .d hd, .d (.int f), .d (.tup SS), s6, .un, s8, s9, .un]) (by simp -implicitDefEqProofs [evE, evT, evA, evO, evC_nil, evC_t, evC_f, evC_e, evP, evI, exC, Rs.bind_ok, Rs.bind_st, Rs.calm_ok, ofO_some, ofO_none, rd, tk, at0, at1, set0, set1, put, puts, asgT, asgTs, setAt, sem1, sem2, semSl, opInt, truth, isOl, outs, backs, endF, alB, runF, startE, items, pick, List.length_cons, List.length_nil, List.cons_append, List.nil_append, List.replicate, List.map, Nat.reduceSub, Nat.reduceAdd, Nat.reduceBEq, Nat.reduceEqDiff, Bool.and_true, Bool.true_and, if_true, if_false, beq_self_eq_true, decide_true, decide_false, reduceIte, Bool.false_eq_true, cx_fn, Option.map_some, Option.bind_some])]
  rw [seq_ok (ρ1 := [.ol true W', .d t, .d (.tup [hd, .int f, .tup SS]), .d hd, .d (.int f), .d (.tup SS), .ol false L, .un, s8, s9, .un]) (by simp -implicitDefEqProofs [evE, evT, evA, evO, evC_nil, evC_t, evC_f, evC_e, evP, evI, exC, Rs.bind_ok, Rs.bind_st, Rs.calm_ok, ofO_some, ofO_none, rd, tk, at0, at1, set0, set1, put, puts, asgT, asgTs, setAt, sem1, sem2, semSl, opInt, truth, isOl, outs, backs, endF, alB, runF, startE, items, pick, List.length_cons, List.length_nil, List.cons_append, List.nil_append, List.replicate, List.map, Nat.reduceSub, Nat.reduceAdd, Nat.reduceBEq, Nat.reduceEqDiff, Bool.and_true, Bool.true_and, if_true, if_false, beq_self_eq_true, decide_true, decide_false, reduceIte, Bool.false_eq_true, cx_fn, Option.map_some, Option.bind_some, e0 s6 s8 s9])]
  rw [seq_ok (ρ1 := [.ol true W', .d t, .d (.tup [hd, .int f, .tup SS]), .d hd, .d (.int f), .d (.tup SS), .ol false L, .un, .d due, s9, .un]) (by
    have q0 : okEq (.lst []) = true := rfl
    rcases hdue with ⟨rfl, rfl⟩ | ⟨h1, h2⟩
    · have v0 : D.eqv (.lst []) (.lst []) = true := rfl
      simp -implicitDefEqProofs [evE, evT, evA, evO, evC_nil, evC_t, evC_f, evC_e, evP, evI, exC, Rs.bind_ok, Rs.bind_st, Rs.calm_ok, ofO_some, ofO_none, rd, tk, at0, at1, set0, set1, put, puts, asgT, asgTs, setAt, sem1, sem2, semSl, opInt, truth, isOl, outs, backs, endF, alB, runF, startE, items, pick, List.length_cons, List.length_nil, List.cons_append, List.nil_append, List.replicate, List.map, Nat.reduceSub, Nat.reduceAdd, Nat.reduceBEq, Nat.reduceEqDiff, Bool.and_true, Bool.true_and, if_true, if_false, beq_self_eq_true, decide_true, decide_false, reduceIte, Bool.false_eq_true, cx_fn, Option.map_some, Option.bind_some, q0, v0]
    · have et : evT (cx (n + 7)) (.tr (.u2 (.ne) (.var 6) (.lst (.nil)))) [.ol true W', .d t, .d (.tup [hd, .int f, .tup SS]), .d hd, .d (.int f), .d (.tup SS), .ol false L, .un, s8, s9, .un] = .ok (true, [.ol true W', .d t, .d (.tup [hd, .int f, .tup SS]), .d hd, .d (.int f), .d (.tup SS), .ol false L, .un, s8, s9, .un]) := by
        simp -implicitDefEqProofs [evE, evT, evA, evO, evC_nil, evC_t, evC_f, evC_e, evP, evI, exC, Rs.bind_ok, Rs.bind_st, Rs.calm_ok, ofO_some, ofO_none, rd, tk, at0, at1, set0, set1, put, puts, asgT, asgTs, setAt, sem1, sem2, semSl, opInt, truth, isOl, outs, backs, endF, alB, runF, startE, items, pick, List.length_cons, List.length_nil, List.cons_append, List.nil_append, List.replicate, List.map, Nat.reduceSub, Nat.reduceAdd, Nat.reduceBEq, Nat.reduceEqDiff, Bool.and_true, Bool.true_and, if_true, if_false, beq_self_eq_true, decide_true, decide_false, reduceIte, Bool.false_eq_true, cx_fn, Option.map_some, Option.bind_some, qL, q0, h1]
      have em : evE (cx (n + 7)) (.u1 (.mx) (.var 6)) [.ol true W', .d t, .d (.tup [hd, .int f, .tup SS]), .d hd, .d (.int f), .d (.tup SS), .ol false L, .un, s8, s9, .un] = .ok (.d due, [.ol true W', .d t, .d (.tup [hd, .int f, .tup SS]), .d hd, .d (.int f), .d (.tup SS), .ol false L, .un, s8, s9, .un]) := by
        simp only [evE, at0, at1, Rs.bind_ok, rd, ofO_some, h2]
      have ei : evE (cx (n + 7)) (.ite (.tr (.u2 (.ne) (.var 6) (.lst (.nil)))) (.u1 (.mx) (.var 6)) (.lit (.non))) [.ol true W', .d t, .d (.tup [hd, .int f, .tup SS]), .d hd, .d (.int f), .d (.tup SS), .ol false L, .un, s8, s9, .un] = .ok (.d due, [.ol true W', .d t, .d (.tup [hd, .int f, .tup SS]), .d hd, .d (.int f), .d (.tup SS), .ol false L, .un, s8, s9, .un]) := by
        rw [evE]
        rw [et]
        simp only [Rs.bind_ok, if_true, em]
      rw [exC]
      rw [ei]
      simp only [Rs.bind_ok, put, at0, at1, set0, set1, ofO_some]
      done)]
  rw [seq_ok (ρ1 := [.ol true W', .d t, .d (.tup [hd, .int f, .tup SS]), .d hd, .d (.int f), .d (.tup SS), .ol false L, .un, .d due, s9, .un]) (iff_ff (by
    have bq : D.beq (.lst [due, due]) (.lst [due, due]) = true := beq_refl _ (by simp only [okShow, Bool.and_eq_true] at oS; exact oS.1)
    simp -implicitDefEqProofs [evE, evT, evA, evO, evC_nil, evC_t, evC_f, evC_e, evP, evI, exC, Rs.bind_ok, Rs.bind_st, Rs.calm_ok, ofO_some, ofO_none, rd, tk, at0, at1, set0, set1, put, puts, asgT, asgTs, setAt, sem1, sem2, semSl, opInt, truth, isOl, outs, backs, endF, alB, runF, startE, items, pick, List.length_cons, List.length_nil, List.cons_append, List.nil_append, List.replicate, List.map, Nat.reduceSub, Nat.reduceAdd, Nat.reduceBEq, Nat.reduceEqDiff, Bool.and_true, Bool.true_and, if_true, if_false, beq_self_eq_true, decide_true, decide_false, reduceIte, Bool.false_eq_true, cx_fn, Option.map_some, Option.bind_some, e11, backs, oS, bq, b2]))]
  rw [seq_ok (ρ1 := [.ol true W', .d t, .d (.tup [hd, .int f, .tup SS]), .d hd, .d (.int f), .d (.tup SS), .ol false L, .un, .d due, s9, .un]) (iff_ff (by
    simp -implicitDefEqProofs [evE, evT, evA, evO, evC_nil, evC_t, evC_f, evC_e, evP, evI, exC, Rs.bind_ok, Rs.bind_st, Rs.calm_ok, ofO_some, ofO_none, rd, tk, at0, at1, set0, set1, put, puts, asgT, asgTs, setAt, sem1, sem2, semSl, opInt, truth, isOl, outs, backs, endF, alB, runF, startE, items, pick, List.length_cons, List.length_nil, List.cons_append, List.nil_append, List.replicate, List.map, Nat.reduceSub, Nat.reduceAdd, Nat.reduceBEq, Nat.reduceEqDiff, Bool.and_true, Bool.true_and, if_true, if_false, beq_self_eq_true, decide_true, decide_false, reduceIte, Bool.false_eq_true, cx_fn, Option.map_some, Option.bind_some, e1, e2, qB, vB]))]
  rw [seq_ok (ρ1 := [.ol true W', .d t, .d (.tup [hd, .int f, .tup SS]), .d hd, .d (.int f), .d (.tup SS), .ol false L, .un, .d due, s9, .un]) (iff_ff (by
    have v1 : D.eqv (.bl i) (.bl i) = true := by simp [D.eqv]
    simp -implicitDefEqProofs [evE, evT, evA, evO, evC_nil, evC_t, evC_f, evC_e, evP, evI, exC, Rs.bind_ok, Rs.bind_st, Rs.calm_ok, ofO_some, ofO_none, rd, tk, at0, at1, set0, set1, put, puts, asgT, asgTs, setAt, sem1, sem2, semSl, opInt, truth, isOl, outs, backs, endF, alB, runF, startE, items, pick, List.length_cons, List.length_nil, List.cons_append, List.nil_append, List.replicate, List.map, Nat.reduceSub, Nat.reduceAdd, Nat.reduceBEq, Nat.reduceEqDiff, Bool.and_true, Bool.true_and, if_true, if_false, beq_self_eq_true, decide_true, decide_false, reduceIte, Bool.false_eq_true, cx_fn, Option.map_some, Option.bind_some, er, qL, vL, e9, e10, hi, backs, okEq_b, v1]))]
  rw [seq_ok (ρ1 := [.ol true W', .d t, .d (.tup [hd, .int f, .tup SS]), .d hd, .d (.int f), .d (.tup SS), .ol false L, .un, .d due, s9, .un]) (iff_ff (by
    simp -implicitDefEqProofs [evE, evT, evA, evO, evC_nil, evC_t, evC_f, evC_e, evP, evI, exC, Rs.bind_ok, Rs.bind_st, Rs.calm_ok, ofO_some, ofO_none, rd, tk, at0, at1, set0, set1, put, puts, asgT, asgTs, setAt, sem1, sem2, semSl, opInt, truth, isOl, outs, backs, endF, alB, runF, startE, items, pick, List.length_cons, List.length_nil, List.cons_append, List.nil_append, List.replicate, List.map, Nat.reduceSub, Nat.reduceAdd, Nat.reduceBEq, Nat.reduceEqDiff, Bool.and_true, Bool.true_and, if_true, if_false, beq_self_eq_true, decide_true, decide_false, reduceIte, Bool.false_eq_true, cx_fn, Option.map_some, Option.bind_some, e11n, backs, okEq_i, eqv_ii, b3]))]
  rw [seq_ok (ρ1 := [.ol true W', .d t, .d (.tup [hd, .int f, .tup SS]), .d hd, .d (.int f), .d (.tup SS), .ol false L, .un, .d due, .d (.tup M), .un]) (by simp -implicitDefEqProofs [evE, evT, evA, evO, evC_nil, evC_t, evC_f, evC_e, evP, evI, exC, Rs.bind_ok, Rs.bind_st, Rs.calm_ok, ofO_some, ofO_none, rd, tk, at0, at1, set0, set1, put, puts, asgT, asgTs, setAt, sem1, sem2, semSl, opInt, truth, isOl, outs, backs, endF, alB, runF, startE, items, pick, List.length_cons, List.length_nil, List.cons_append, List.nil_append, List.replicate, List.map, Nat.reduceSub, Nat.reduceAdd, Nat.reduceBEq, Nat.reduceEqDiff, Bool.and_true, Bool.true_and, if_true, if_false, beq_self_eq_true, decide_true, decide_false, reduceIte, Bool.false_eq_true, cx_fn, Option.map_some, Option.bind_some, e3])]
  rw [seq_ok (ρ1 := [.ol true W', .d t, .d (.tup [hd, .int f, .tup SS]), .d hd, .d (.int f), .d (.tup SS), .ol false L, .un, .d due, .d (.tup M), .un]) (iff_ff (by
    cases i with
    | false => simp -implicitDefEqProofs [evE, evT, evA, evO, evC_nil, evC_t, evC_f, evC_e, evP, evI, exC, Rs.bind_ok, Rs.bind_st, Rs.calm_ok, ofO_some, ofO_none, rd, tk, at0, at1, set0, set1, put, puts, asgT, asgTs, setAt, sem1, sem2, semSl, opInt, truth, isOl, outs, backs, endF, alB, runF, startE, items, pick, List.length_cons, List.length_nil, List.cons_append, List.nil_append, List.replicate, List.map, Nat.reduceSub, Nat.reduceAdd, Nat.reduceBEq, Nat.reduceEqDiff, Bool.and_true, Bool.true_and, if_true, if_false, beq_self_eq_true, decide_true, decide_false, reduceIte, Bool.false_eq_true, cx_fn, Option.map_some, Option.bind_some, e9, backs]
    | true => simp -implicitDefEqProofs [evE, evT, evA, evO, evC_nil, evC_t, evC_f, evC_e, evP, evI, exC, Rs.bind_ok, Rs.bind_st, Rs.calm_ok, ofO_some, ofO_none, rd, tk, at0, at1, set0, set1, put, puts, asgT, asgTs, setAt, sem1, sem2, semSl, opInt, truth, isOl, outs, backs, endF, alB, runF, startE, items, pick, List.length_cons, List.length_nil, List.cons_append, List.nil_append, List.replicate, List.map, Nat.reduceSub, Nat.reduceAdd, Nat.reduceBEq, Nat.reduceEqDiff, Bool.and_true, Bool.true_and, if_true, if_false, beq_self_eq_true, decide_true, decide_false, reduceIte, Bool.false_eq_true, cx_fn, Option.map_some, Option.bind_some, e9, e4, e9m, backs, b3, isT1]))]
  refine iff_ff ?_
  cases i with
  | false => simp -implicitDefEqProofs [evE, evT, evA, evO, evC_nil, evC_t, evC_f, evC_e, evP, evI, exC, Rs.bind_ok, Rs.bind_st, Rs.calm_ok, ofO_some, ofO_none, rd, tk, at0, at1, set0, set1, put, puts, asgT, asgTs, setAt, sem1, sem2, semSl, opInt, truth, isOl, outs, backs, endF, alB, runF, startE, items, pick, List.length_cons, List.length_nil, List.cons_append, List.nil_append, List.replicate, List.map, Nat.reduceSub, Nat.reduceAdd, Nat.reduceBEq, Nat.reduceEqDiff, Bool.and_true, Bool.true_and, if_true, if_false, beq_self_eq_true, decide_true, decide_false, reduceIte, Bool.false_eq_true, cx_fn, Option.map_some, Option.bind_some, e9, backs]
  | true =>
    have q0 : okEq (.tup []) = true := rfl
    cases SS with
    | nil =>
      have v0 : D.eqv (.tup []) (.tup []) = true := rfl
      simp -implicitDefEqProofs [evE, evT, evA, evO, evC_nil, evC_t, evC_f, evC_e, evP, evI, exC, Rs.bind_ok, Rs.bind_st, Rs.calm_ok, ofO_some, ofO_none, rd, tk, at0, at1, set0, set1, put, puts, asgT, asgTs, setAt, sem1, sem2, semSl, opInt, truth, isOl, outs, backs, endF, alB, runF, startE, items, pick, List.length_cons, List.length_nil, List.cons_append, List.nil_append, List.replicate, List.map, Nat.reduceSub, Nat.reduceAdd, Nat.reduceBEq, Nat.reduceEqDiff, Bool.and_true, Bool.true_and, if_true, if_false, beq_self_eq_true, decide_true, decide_false, reduceIte, Bool.false_eq_true, cx_fn, Option.map_some, Option.bind_some, e9, backs, q0, v0]
    | cons y Y =>
      have v0 : D.eqv (.tup (y :: Y)) (.tup []) = false := rfl
      have ec : cut (y :: Y) (some 1) none = Y := by rw [cut_from _ _ (by omega)]; rfl
      have e9t' := e9t rfl y Y rfl
      simp -implicitDefEqProofs [evE, evT, evA, evO, evC_nil, evC_t, evC_f, evC_e, evP, evI, exC, Rs.bind_ok, Rs.bind_st, Rs.calm_ok, ofO_some, ofO_none, rd, tk, at0, at1, set0, set1, put, puts, asgT, asgTs, setAt, sem1, sem2, semSl, opInt, truth, isOl, outs, backs, endF, alB, runF, startE, items, pick, List.length_cons, List.length_nil, List.cons_append, List.nil_append, List.replicate, List.map, Nat.reduceSub, Nat.reduceAdd, Nat.reduceBEq, Nat.reduceEqDiff, Bool.and_true, Bool.true_and, if_true, if_false, beq_self_eq_true, decide_true, decide_false, reduceIte, Bool.false_eq_true, cx_fn, Option.map_some, Option.bind_some, e9, backs, q0, v0, qs, ec, e9t', b3, isT1]
end MP
namespace MP
theorem Snd.d_plain (s : Snd) : (Snd.d s).plain = true := rfl
theorem okEq_sendT (ss : List Snd) : okEq (.tup (ss.map Snd.d)) = true := okEq_sends ss
theorem ok_nil (x : Dues) (o : x.Ok) : Dues.Ok ⟨x.hs, x.f, []⟩ := ⟨o.h1, o.h2, o.h3, o.f1, o.f2, Nat.zero_le _, by simp, by simp⟩
theorem turn19 (n : Nat) (a b c : Int) (t : D) (s1 s2 s3 s4 s5 s6 s8 s9 : Sl) : ∃ a' b' c' : Int, ∃ t2 t3 t4 t5 t6 t8 t9, bodyF (cx (n + 7)) (.name 1) g_19_5 t [.ol true [.int a, .int b, .int c], s1, s2, s3, s4, s5, s6, .un, s8, s9, .un] = .ok (.nx, [.ol true [.int a', .int b', .int c'], .d t, t2, t3, t4, t5, t6, .un, t8, t9, .un]) := by
  obtain ⟨x, o, _, a', b', c', e16⟩ := drawdues (n + 4) a b c 12 8 (by omega) (by omega) (by omega) (by omega)
  have h0 : ∀ i ∈ x.hs, 0 ≤ i := fun i hi => (o.h3 i hi).1
  obtain ⟨k, h10, hk⟩ := some_k x.hs x.ss h0
  have eL := someL_k x k h10 hk
  have on := ok_nil x o
  have eN : someL ⟨x.hs, x.f, []⟩ = rangeD 0 (10 : Nat) := someL_k ⟨x.hs, x.f, []⟩ 10 (Nat.le_refl _) fun m hm => by
    rw [decide_eq_true hm]
    exact inT_none x.hs m h0
  have e11 := bears (n + 1) x o (by rw [eL]; exact okEq_rng h10)
  rw [eL, last_k h10] at e11
  have e11n := bears (n + 1) ⟨x.hs, x.f, []⟩ on (by rw [eN]; exact okEq_rng (Nat.le_refl _))
  rw [eN, last_k (Nat.le_refl _)] at e11n
  have gmono : ∀ u v : Int, u ≤ v → mn999 (u + 1) ≤ mn999 (v + 1) := fun u v h => by
    unfold mn999
    split <;> split <;> omega
  have gup : ∀ i ∈ x.hs, i ≤ mn999 (i + 1) := fun i hi => by
    have := (o.h3 i hi).2
    unfold mn999
    split <;> omega
  have om : Dues.Ok ⟨x.hs.map fun u => mn999 (u + 1), x.f, x.ss⟩ := ⟨by rw [List.length_map]; exact o.h1, by rw [List.length_map]; exact o.h2, fun i hi => by
    obtain ⟨u, hu, rfl⟩ := List.mem_map.mp hi
    have h1 := o.h3 u hu
    unfold mn999
    constructor <;> split <;> omega, o.f1, o.f2, o.s1, by rw [List.length_map]; exact o.s2, o.s3⟩
  have eM : (x.hs.map (· + 1)).map mn999 = x.hs.map fun u => mn999 (u + 1) := by rw [List.map_map]; rfl
  have e9 := intime n x o
  have e := body19 n [.int a, .int b, .int c] [.int a', .int b', .int c'] (rangeD 0 k) (blK k) ((x.hs.map (· + 1)).map .int) (((x.hs.map (· + 1)).map mn999).map .int) t (tupI x.hs) (dueD k) (headL x) x.f (x.ss.map Snd.d) s1 s2 s3 s4 s5 s6 s8 s9 (inT x)
    e16 (fun s6 s8 s9 => by
      have z := l19_0 (n + 5) [.int a', .int b', .int c'] t x.d x.hs x.f x.ss s6 s8 s9 o.h2 o.s1
      rw [show someL ⟨x.hs, x.f, x.ss⟩ = rangeD 0 k from eL] at z
      exact z)
    (okEq_rng h10) (eqv_rng h10) (by
      by_cases h : k = 0
      · subst h
        exact .inl ⟨rfl, rfl⟩
      · exact .inr ⟨eqv_rng0 h, mx_k h10 h⟩)
    e11 (okShow_due h10) (fun s6 s8 s9 => l19_1 n _ t x.d x o k hk s6 s8 s9) (fun s8 s9 => l19_2 _ _ t x.d x.hs x.f x.ss k h10 s8 s9) (okEq_blK k) (eqv_blK k)
    (fun s8 s9 => r19 _ _ t x.d x.hs x.f x.ss k h10 .un s8 s9 .un) e9 (latedays (n + 1) x o) rfl e11n (fun s6 s8 s9 => l19_3 _ _ t x.d x.hs x.f x.ss o.h2 s6 .un s8 s9)
    (fun s6 s8 => l19_4 _ _ t x.d x.hs x.f x.ss (x.hs.map (· + 1)) (by rw [List.length_map]; exact o.h2) s6 .un s8)
    (fun hi => by
      have z := intime n _ om
      rw [inT_hands (fun u => mn999 (u + 1)) gmono x gup hi] at z
      rw [eM]
      exact z)
    (okEq_sendT x.ss) (fun hi y Y hY => by
      cases hs : x.ss with
      | nil => rw [hs] at hY; cases hY
      | cons s ss =>
        rw [hs] at hY
        obtain ⟨rfl, rfl⟩ := List.cons.inj hY
        have ot : Dues.Ok ⟨x.hs, x.f, ss⟩ := ⟨o.h1, o.h2, o.h3, o.f1, o.f2, by have := o.s1; rw [hs] at this; simp only [List.length_cons] at this; show ss.length ≤ 12; omega, fun z hz => o.s2 z (by rw [hs]; exact List.mem_cons_of_mem _ hz), by
          have h3 := sorted_again (x.ss.map Snd.d)
          rw [o.s3, hs, List.map_cons] at h3
          exact List.mergeSort_of_pairwise (List.pairwise_cons.mp h3).2⟩
        have hc : 0 ≤ s.c := by
          have := (o.s2 s (by rw [hs]; exact List.mem_cons_self)).2.2.2.1
          omega
        have z := intime n _ ot
        have hi' : inT ⟨x.hs, x.f, s :: ss⟩ = true := by
          have : x = ⟨x.hs, x.f, s :: ss⟩ := by rw [← hs]
          rw [← this]; exact hi
        rw [inT_tail x.hs x.f s ss hc hi'] at z
        exact z)
  exact ⟨a', b', c', _, _, _, _, _, _, _, e⟩
theorem right (n : Nat) (a b c : Int) : ∃ x y z : Int, inf.pg.sem (n + 8) 19 [.ol true [.int a, .int b, .int c]] = .ok (.d (.bl true), [[.int x, .int y, .int z]]) := by
  obtain ⟨ρ', e, x, y, z, s1, s2, s3, s4, s5, s6, s8, s9, rfl⟩ := loopF_keep (body := bodyF (cx (n + 7)) (.name 1) g_19_5) (fun ρ => ∃ a b c : Int, ∃ s1 s2 s3 s4 s5 s6 s8 s9, ρ = [.ol true [.int a, .int b, .int c], s1, s2, s3, s4, s5, s6, .un, s8, s9, .un]) (rangeD 0 4)
    [.ol true [.int a, .int b, .int c], .un, .un, .un, .un, .un, .un, .un, .un, .un, .un] (fun t _ ρ ⟨a, b, c, s1, s2, s3, s4, s5, s6, s8, s9, e⟩ => by
      subst e
      obtain ⟨a', b', c', t2, t3, t4, t5, t6, t8, t9, e⟩ := turn19 n a b c t s1 s2 s3 s4 s5 s6 s8 s9
      exact ⟨_, e, a', b', c', .d t, t2, t3, t4, t5, t6, t8, t9, rfl⟩) ⟨a, b, c, .un, .un, .un, .un, .un, .un, .un, .un, rfl⟩
  have ef : exC (cx (n + 7)) f_19_5 [.ol true [.int a, .int b, .int c], .un, .un, .un, .un, .un, .un, .un, .un, .un, .un] = .ok (.nx, [.ol true [.int x, .int y, .int z], s1, s2, s3, s4, s5, s6, .un, s8, s9, .un]) := by
    rw [f_19_5, for_eq, rng_lit _ _ 4 (by decide)]
    simp only [Rs.bind_ok]
    exact e
  refine ⟨x, y, z, ?_⟩
  rw [sm_19]
  simp -implicitDefEqProofs [evE, evT, evA, evO, evC_nil, evC_t, evC_f, evC_e, evP, evI, exC, Rs.bind_ok, Rs.bind_st, Rs.calm_ok, ofO_some, ofO_none, rd, tk, at0, at1, set0, set1, put, puts, asgT, asgTs, setAt, sem1, sem2, semSl, opInt, truth, isOl, outs, backs, endF, alB, runF, startE, items, pick, List.length_cons, List.length_nil, List.cons_append, List.nil_append, List.replicate, List.map, Nat.reduceSub, Nat.reduceAdd, Nat.reduceBEq, Nat.reduceEqDiff, Bool.and_true, Bool.true_and, if_true, if_false, beq_self_eq_true, decide_true, decide_false, reduceIte, Bool.false_eq_true, cx_fn, Option.map_some, Option.bind_some, c_19, ef]
end MP
namespace MP
theorem dBls_true : ∀ m : Nat, dBls (List.replicate m (.bl true)) = some (List.replicate m true)
  | 0 => rfl
  | m + 1 => by simp [List.replicate_succ, dBls, dBls_true m]
theorem all_true (m : Nat) : (List.replicate m true).all id = true := by simp
theorem pure_law (ns : List Int) (hn : ns.length ≤ 63) : inf.pg.sem 16 20 [.d (.fz (ns.map .int))] = .ok (.d (.bl true), []) := by
  obtain ⟨m, hm, et⟩ := turns 14 ns
  have et : inf.pg.sem 15 15 [.d (.fz (ns.map .int))] = .ok (.nw (rangeD 0 m), []) := et
  obtain ⟨ρ', e, s, rfl⟩ := mapC_keep (step := stepL (cx 15) (.name 1) .omit (.call 19 (.cons (.call 12 (.cons (.var 0) (.cons (.var 1) (.nil)))) (.nil))) [1]) (fun ρ => ∃ s, ρ = [.d (.fz (ns.map .int)), s]) (fun _ => .bl true) (rangeD 0 m) [.d (.fz (ns.map .int)), .un] (fun x hx ρ ⟨s, hs⟩ => by
    subst hs
    simp only [rangeD, List.mem_map] at hx
    obtain ⟨j, _, rfl⟩ := hx
    obtain ⟨a, b, ew⟩ := well 14 ns (0 + (j : Int)) (by omega)
    have ew : inf.pg.sem 15 12 [.d (.fz (ns.map .int)), .d (.int (0 + (j : Int)))] = .ok (.nw [.int a, .int b, .int 0], []) := ew
    obtain ⟨x, y, z, er⟩ := right 7 a b 0
    have er : inf.pg.sem 15 19 [.ol true [.int a, .int b, .int 0]] = .ok (.d (.bl true), [[.int x, .int y, .int z]]) := er
    rw [Int.zero_add] at ew
    refine ⟨_, ?_, .d (.int (0 + (j : Int))), rfl⟩
    simp -implicitDefEqProofs [stepL, evE, evT, evA, evO, evC_nil, evC_t, evC_f, evC_e, evP, evI, exC, Rs.bind_ok, Rs.bind_st, Rs.calm_ok, ofO_some, ofO_none, rd, tk, at0, at1, set0, set1, put, puts, asgT, asgTs, setAt, sem1, sem2, semSl, opInt, truth, isOl, outs, backs, endF, alB, runF, startE, items, pick, List.length_cons, List.length_nil, List.cons_append, List.nil_append, List.replicate, List.map, Nat.reduceSub, Nat.reduceAdd, Nat.reduceBEq, Nat.reduceEqDiff, Bool.and_true, Bool.true_and, if_true, if_false, beq_self_eq_true, decide_true, decide_false, reduceIte, Bool.false_eq_true, cx_fn, Option.map_some, Option.bind_some, wipeE, ew, er, backs]) ⟨.un, rfl⟩
  have el : evE (cx 15) l_20_0 [.d (.fz (ns.map .int)), .un] = .ok (.nw ((rangeD 0 m).map fun _ => .bl true), [.d (.fz (ns.map .int)), .un]) := by
    rw [l_20_0, lc_eq]
    have w : evI (cx 15) (.walk (.call 15 (.cons (.var 0) (.nil)))) [.d (.fz (ns.map .int)), .un] = .ok (rangeD 0 m, [.d (.fz (ns.map .int)), .un]) := by
      simp -implicitDefEqProofs [evE, evT, evA, evO, evC_nil, evC_t, evC_f, evC_e, evP, evI, exC, Rs.bind_ok, Rs.bind_st, Rs.calm_ok, ofO_some, ofO_none, rd, tk, at0, at1, set0, set1, put, puts, asgT, asgTs, setAt, sem1, sem2, semSl, opInt, truth, isOl, outs, backs, endF, alB, runF, startE, items, pick, List.length_cons, List.length_nil, List.cons_append, List.nil_append, List.replicate, List.map, Nat.reduceSub, Nat.reduceAdd, Nat.reduceBEq, Nat.reduceEqDiff, Bool.and_true, Bool.true_and, if_true, if_false, beq_self_eq_true, decide_true, decide_false, reduceIte, Bool.false_eq_true, cx_fn, Option.map_some, Option.bind_some, et, backs]
    rw [w]
    simp only [Rs.bind_ok]
    have hl : (rangeD 0 m).length ≤ line := by simp [rangeD, line]; omega
    have h0 : noOl [Sl.d (.fz (ns.map .int)), .un] [1] = some () := rfl
    rw [h0]
    simp only [ofO_some, Rs.bind_ok]
    rw [if_pos hl, e]
    rfl
  have er : (rangeD 0 m).map (fun _ => D.bl true) = List.replicate (rangeD 0 m).length (.bl true) := List.map_const' ..
  rw [er] at el
  rw [sm_20]
  simp -implicitDefEqProofs [evE, evT, evA, evO, evC_nil, evC_t, evC_f, evC_e, evP, evI, exC, Rs.bind_ok, Rs.bind_st, Rs.calm_ok, ofO_some, ofO_none, rd, tk, at0, at1, set0, set1, put, puts, asgT, asgTs, setAt, sem1, sem2, semSl, opInt, truth, isOl, outs, backs, endF, alB, runF, startE, items, pick, List.length_cons, List.length_nil, List.cons_append, List.nil_append, List.replicate, List.map, Nat.reduceSub, Nat.reduceAdd, Nat.reduceBEq, Nat.reduceEqDiff, Bool.and_true, Bool.true_and, if_true, if_false, beq_self_eq_true, decide_true, decide_false, reduceIte, Bool.false_eq_true, cx_fn, Option.map_some, Option.bind_some, c_20, el, dBls_true]
end MP
open PySem
open PySem.W
open PySem.Calls
open PyProof.Rows
theorem PySem.Challenge.cw_maywrite_k48_whole_failing_days_borne_holds : PySem.Challenge.rw_maywrite_k48_whole_failing_days_borne.Holds := by
  w_on; o_law
  refine HandSHeadRun.head_any (r := OpenLaw.row PySem.Challenge.rw_maywrite_k48_whole_failing_days_borne) (q := view (OpenLaw.row PySem.Challenge.rw_maywrite_k48_whole_failing_days_borne).prog [31]) (H := MP.hkz) (ob := MP.obz) (M := 3000) (loose := MP.loosez) (d := HandSHeadRun.topDef (OpenLaw.row PySem.Challenge.rw_maywrite_k48_whole_failing_days_borne).prog 31) (kwd := []) MP.obz_eq
    (by kernel_rfl) (fun s => by kernel_rfl) MP.runz (by kernel_rfl) (by kernel_rfl) (by kernel_rfl) (by rfl) (by first | assumption | decide +kernel) (by decide +kernel) ⟨rfl, rfl, rfl, rfl, rfl, by decide +kernel⟩ ?hw ?hc
  case hw => w_witness2
  case hc => exact MP.law_end (l := PySem.Challenge.rw_maywrite_k48_whole_failing_days_borne) (n := 63) (k := 16) (m := 20) (I := MP.inf) (dl := MP.d_20) rfl (by decide) (by kernel_rfl) ⟨rfl, by decide, by decide⟩ (by kernel_rfl) rfl ⟨_, rfl⟩ MP.oks MP.kwo MP.toldz MP.pure_law
