import PyProof.Rows.All
import HandS.ForMost
import KE.SortData
import KE.KDictKeyed
import KE.KeyNested
import HandS.Style
import HandS.Wide
import HandS.Deep
import HandS.Flow
import HandS.More
import HandS.Conv
import HandS.IsInst
import HandS.WideBits
import HandS.Set
import HandS.SetBool
import HandS.SetFor
import HandS.Strs
import HandS.Comp
import HandS.Ends
import HandS.Defaults
import HandS.Head0
import HandS.Head1
import HandS.Head2
import HandS.HeadEnd
import HandS.HeadHook1
import HandS.HeadHook2
import HandS.HeadHook3
import HandS.HeadHook4
import HandS.Words
import Wide.All
import OpenK.AllK
import Wide.FinOn
import KE.KIntText
import PySem.Challenge.RW_proofsrun_k53_whole_alike_worlds_made_on
section
set_option Elab.async false
set_option linter.all false
set_option maxRecDepth 100000
/-! Fx1: trees, the core language, its evaluator. -/
namespace Fx
open PySem PySem.Spec PyProof.Rows L2

/-- values: lists are trees; cell: a shared list that functions change -/
inductive T where
  | non | bl (b : Bool) | int (i : Int) | str (s : List Nat)
  | tup (ts : List T) | lst (ts : List T) | dic (n : Bool) (ks vs : List T) | fro (ts : List T) | cell (n : Nat)
  deriving Inhabited

mutual
/-- Python's == -/
def T.eqv : T → T → Bool
  | .non, .non => true
  | .bl a, .bl b => a == b
  | .bl a, .int j => (if a then 1 else 0) == j
  | .int i, .bl b => i == (if b then 1 else 0)
  | .int i, .int j => i == j
  | .str x, .str y => x == y
  | .lst xs, .lst ys => T.eqvs xs ys
  | .tup xs, .tup ys => T.eqvs xs ys
  | _, _ => false
def T.eqvs : List T → List T → Bool
  | [], [] => true
  | x :: xs, y :: ys => T.eqv x y && T.eqvs xs ys
  | _, _ => false
end
mutual
/-- no dict, no cell within -/
def T.plain : T → Bool
  | .tup ts => T.plains ts
  | .lst ts => T.plains ts
  | .dic _ _ _ => false
  | .fro _ => false
  | .cell _ => false
  | _ => true
def T.plains : List T → Bool
  | [] => true
  | x :: xs => T.plain x && T.plains xs
end
mutual
def T.deep : T → Nat
  | .tup ts => T.deeps ts + 1
  | .lst ts => T.deeps ts + 1
  | _ => 0
def T.deeps : List T → Nat
  | [] => 0
  | x :: xs => max (T.deep x) (T.deeps xs)
end
mutual
/-- no list, no dict within (a cell's own name is none) -/
def T.flat : T → Bool
  | .fro _ => false
  | .tup ts => T.flats ts
  | .lst _ => false
  | .dic _ _ _ => false
  | _ => true
def T.flats : List T → Bool
  | [] => true
  | x :: xs => T.flat x && T.flats xs
end
/-- may two be compared -/
def T.okEq (a b : T) : Bool := a.plain && b.plain && (decide (a.deep ≤ 64) || decide (b.deep ≤ 64))
def T.okEqs (a : T) (bs : List T) : Bool := a.plain && T.plains bs && (decide (a.deep ≤ 64) || decide (T.deeps bs ≤ 64))

def T.truth : T → Option Bool
  | .non => some false
  | .bl b => some b
  | .int i => some (i != 0)
  | .str s => if s.length ≤ 16777216 then some (!s.isEmpty) else none
  | .tup ts => some (!ts.isEmpty)
  | .lst ts => some (!ts.isEmpty)
  | _ => none

/-- what an evaluation ends in -/
inductive Out (α : Type) where
  | ok (a : α) (g : List T) | exn (c : Nat) (t : T) (g : List T) | bad
def Out.bind {α β : Type} : Out α → (α → List T → Out β) → Out β
  | .ok a g, f => f a g
  | .exn c t g, _ => .exn c t g
  | .bad, _ => .bad
@[simp] theorem Out.bind_ok {α β : Type} (a : α) (g : List T) (f : α → List T → Out β) : (Out.ok a g).bind f = f a g := rfl
@[simp] theorem Out.bind_bad {α β : Type} (f : α → List T → Out β) : (Out.bad : Out α).bind f = .bad := rfl
@[simp] theorem Out.bind_exn {α β : Type} (c : Nat) (t : T) (g : List T) (f : α → List T → Out β) : (Out.exn c t g : Out α).bind f = .exn c t g := rfl
theorem Out.bind_eq {α β : Type} {x : Out α} {f : α → List T → Out β} {b : β} {g' : List T} (h : x.bind f = .ok b g') : ∃ a g, x = .ok a g ∧ f a g = .ok b g' := by
  cases x with
  | ok a g => exact ⟨a, g, rfl, h⟩
  | exn c t g => cases h
  | bad => cases h
def Out.of {α : Type} (g : List T) : Option α → Out α
  | some a => .ok a g
  | none => .bad
@[simp] theorem Out.of_some {α : Type} (g : List T) (a : α) : Out.of g (some a) = .ok a g := rfl
@[simp] theorem Out.of_none {α : Type} (g : List T) : (Out.of g none : Out α) = .bad := rfl
theorem Out.of_eq {α : Type} {g g' : List T} {x : Option α} {a : α} (h : Out.of g x = .ok a g') : x = some a ∧ g = g' := by
  cases x with
  | none => cases h
  | some b => cases h; exact ⟨rfl, rfl⟩

inductive O2 where
  | add | sub | mul | fdiv | mod | pow
  deriving DecidableEq
inductive Bi where
  | len | lis | sumI | sumL | int1 | max2 | repr | sorted | sortSet | lenSet | bits
  deriving DecidableEq
inductive Me where
  | index
  deriving DecidableEq
inductive Ty where
  | int | bool | str | tuple | list
  deriving DecidableEq
/-- a target: a name, or a tuple of names -/
inductive Tg where
  | one (i : Nat) | many (is : List Nat)
  deriving DecidableEq

/-- a comprehension's turns -/
def compL (ts : List T) (g : List T) (f : T → List T → Out (Option (T × Nat))) : Out (List (T × Nat)) := match ts with
  | [] => .ok [] g
  | t :: r => (f t g).bind fun x g => (compL r g f).bind fun xs g => .ok (match x with
    | some x => x :: xs
    | none => xs) g

mutual
inductive E where
  | lit (t : T)
  | con (c : Nat)
  | var (i : Nat)
  | tup (es : Es)
  | lst (es : Es)
  | bin (o : O2) (a b : E)
  | neg (a : E)
  | not (a : E)
  | and (a b : E)
  | or (a b : E)
  | cmp (o : CmpOp) (a b : E)
  | chain (o o' : CmpOp) (a b c : E)
  | ite (c a b : E)
  | idx (a i : E)
  | slc (a lo hi : E)
  | rev (a : E)
  | call (f : Nat) (es : Es)
  | callK (f : Nat) (pm : List Nat) (j : Nat) (es : Es)
  | bi (b : Bi) (es : Es)
  | isi (a : E) (tys : List Ty)
  | comp (elt : E) (own : List Nat) (tg : Tg) (it : It) (cond : E)
  | meth (m : Me) (a : E) (es : Es)
  | dic0 (n : Bool)
  | lrng1 (a : E)
inductive Es where
  | nil | cons (e : E) (es : Es)
inductive It where
  | seq (e : E) | rng1 (e : E) | rng2 (a b : E) | enum (e : E) | zip (a b : E)
end

def isNonE : E → Bool
  | .lit .non => true
  | _ => false
def partOf (e : E) : T → Option (Option Int)
  | .non => if isNonE e then some none else none
  | .int i => if isNonE e then none else some (some i)
  | _ => none
/-! ### operations by values -/
def sizeL : Nat := 16777216
def mulOk (i j : Int) : Bool := decide (i.natAbs.log2 + j.natAbs.log2 < 1000000)
def divOk (j : Int) : Bool := decide (0 < j) && decide (j.natAbs.log2 < 9000)
def powOk (i j : Int) : Bool := decide (0 ≤ j) && decide ((i.natAbs.log2 + 1) * j.toNat < 1000000)
def binI (o : O2) (i j : Int) : Option Int := match o with
  | .add => some (i + j)
  | .sub => some (i - j)
  | .mul => if mulOk i j then some (i * j) else none
  | .fdiv => if divOk j then some (i / j) else none
  | .mod => if divOk j then some (i % j) else none
  | .pow => if powOk i j then some (i ^ j.toNat) else none
/-- the flag of a list out of two -/
def fl2 (f1 f2 : Nat) : Nat := if f1 = 2 ∧ f2 = 2 then 2 else 1
def binV (o : O2) (a b : T) (f1 f2 : Nat) : Option (T × Nat) := match a, b with
  | .int i, .int j => (binI o i j).map fun k => (.int k, 2)
  | .lst xs, .lst ys => if o = .add ∧ xs.length + ys.length ≤ sizeL then some (.lst (xs ++ ys), fl2 f1 f2) else none
  | .str x, .str y => if o = .add ∧ x.length + y.length ≤ sizeL then some (.str (x ++ y), 2) else none
  | _, _ => none
/-- what stands at a cell -/
def dr (g : List T) : T → T
  | .cell n => g.getD n .non
  | t => t
/-- a dict's keys: ints and texts, or tuples of such, nested -/
def keyOk (n : Bool) (k : T) : Bool := match n, k with
  | true, .tup ts => T.flats ts && T.plains ts && decide (T.deeps ts < 8)
  | false, .int _ => true
  | false, .str _ => true
  | _, _ => false
def lookT (ks vs : List T) (k : T) : Option T := ((ks.zip vs).find? fun p => p.1.eqv k).map (·.2)
def putT (ks vs : List T) (k t : T) : List T × List T := if (lookT ks vs k).isSome then (ks, (ks.zip vs).map fun p => if p.1.eqv k then t else p.2) else (ks ++ [k], vs ++ [t])
def idxL (xs : List T) (i : Int) : Option T := atI xs i
def idxV (g : List T) (a i : T) (f : Nat) : Option (T × Nat) := match a, i with
  | .lst xs, .int i => (atI xs i).map fun t => (t, if f = 2 then 2 else 0)
  | .tup xs, .int i => (atI xs i).map fun t => (t, if f = 2 then 2 else 0)
  | .fro xs, .int i => (atI xs i).map fun t => (t, 0)
  | .str s, .int i => if s.length ≤ sizeL then (atI s i).map fun c => (.str [c], 2) else none
  | .cell n, .int i => (match g[n]? with
    | some (.lst xs) => (atI xs i).map fun t => (t, 0)
    | _ => none)
  | .dic n ks vs, k => if keyOk n k then (lookT ks vs k).map fun t => (t, 0) else none
  | _, _ => none
def inV (k : T) : T → Option Bool
  | .lst ts => if k.okEqs ts then some (ts.any fun z => z.eqv k) else none
  | .tup ts => if k.okEqs ts then some (ts.any fun z => z.eqv k) else none
  | .str s => (match k with
    | .str [c] => some (decide (c ∈ s))
    | _ => none)
  | .dic n ks vs => if keyOk n k then some (lookT ks vs k).isSome else none
  | _ => none
def isNonT : T → Bool
  | .non => true
  | _ => false
def isBlT (c : Bool) : T → Bool
  | .bl d => d == c
  | _ => false
def isV (a b : T) : Option Bool := match b with
  | .non => some (isNonT a)
  | .bl c => some (isBlT c a)
  | _ => none
def ordV (o : CmpOp) (i j : Int) : Option Bool := match o with
  | .Lt => some (decide (i < j))
  | .LtE => some (decide (i ≤ j))
  | .Gt => some (decide (j < i))
  | .GtE => some (decide (j ≤ i))
  | _ => none
def cmpV (o : CmpOp) (a b : T) : Option Bool := match o with
  | .Eq => if a.okEq b then some (a.eqv b) else none
  | .NotEq => if a.okEq b then some (!a.eqv b) else none
  | .In => inV a b
  | .NotIn => (inV a b).map not
  | .Is => isV a b
  | .IsNot => (isV a b).map not
  | o => (match a, b with
    | .int i, .int j => ordV o i j
    | .str x, .str y => (match o with
      | .Lt => some (decide (x < y))
      | .LtE => some (!decide (y < x))
      | .Gt => some (decide (y < x))
      | .GtE => some (!decide (x < y))
      | _ => none)
    | _, _ => none)
/-- bounds of a slice -/
def cutN (n : Nat) (lo hi : Option Int) : Nat × Nat :=
  let f : Int → Nat := fun i => if i < 0 then (i + n).toNat else min i.toNat n
  ((lo.map f).getD 0, (hi.map f).getD n)
def partI : T → Option (Option Int)
  | .non => some none
  | .int i => some (some i)
  | _ => none
def cutT {α : Type} (xs : List α) (lo hi : Option Int) : List α := (xs.drop (cutN xs.length lo hi).1).take ((cutN xs.length lo hi).2 - (cutN xs.length lo hi).1)
def slcV (a : T) (lo hi : Option Int) (f : Nat) : Option (T × Nat) := match a with
  | .lst xs => some (.lst (cutT xs lo hi), if f = 2 then 2 else 1)
  | .fro xs => some (.lst (cutT xs lo hi), 1)
  | .tup xs => if cutN xs.length lo hi = (0, xs.length) then none else some (.tup (cutT xs lo hi), if f = 2 then 2 else 0)
  | .str s => if s.length ≤ sizeL then some (.str (cutT s lo hi), 2) else none
  | _ => none
def noTy : T → Bool
  | .dic true _ _ => true
  | _ => false
def isTy : T → Ty → Bool
  | .int _, .int => true
  | .bl _, .int => true
  | .bl _, .bool => true
  | .str _, .str => true
  | .tup _, .tuple => true
  | .lst _, .list => true
  | .fro _, .list => true
  | .cell _, .list => true
  | _, _ => false
def intsOf : List T → Option (List Int)
  | [] => some []
  | .int i :: r => (intsOf r).map (i :: ·)
  | _ :: _ => none
def blsOf : List T → Option (List Bool)
  | [] => some []
  | .bl b :: r => (blsOf r).map (b :: ·)
  | _ :: _ => none
def listsOf : List T → Option (List T)
  | [] => some []
  | .lst xs :: r => (listsOf r).map (xs ++ ·)
  | _ :: _ => none
mutual
/-- as the library's data (a dict, a cell: None) -/
def T.dat : T → PyData
  | .non => .none
  | .bl b => .bool b
  | .int i => .int i
  | .str s => .str ⟨s.toArray⟩
  | .tup ts => .tuple (T.dats ts)
  | .lst ts => .list (T.dats ts)
  | _ => .none
def T.dats : List T → List PyData
  | [] => []
  | x :: xs => T.dat x :: T.dats xs
end
/-- insertion, stable -/
def ins {α : Type} (le : α → α → Bool) (a : α) : List α → List α
  | [] => [a]
  | b :: r => if le a b then a :: b :: r else b :: ins le a r
def isort {α : Type} (le : α → α → Bool) : List α → List α
  | [] => []
  | a :: r => ins le a (isort le r)
def leT (a b : T) : Bool := PySem.W.dataLe false T.dat a b
def notTup : T → Bool
  | .non => false
  | .tup _ => false
  | _ => true
def isTup1 : T → Bool
  | .tup (_ :: _) => true
  | _ => false
def sortOk (ts : List T) : Bool := T.plains ts && decide (T.deeps ts ≤ 64) && (ts.all fun a => ts.all fun b => PySem.W.alike a.dat b.dat) && (ts.all notTup || ts.all isTup1)
def sortV (ts : List T) : Option (List T) := if sortOk ts then some (isort leT ts) else none
/-- each once, the first of equal ones -/
def once {α : Type} [DecidableEq α] : List α → List α
  | [] => []
  | a :: r => a :: (once r).filter (· ≠ a)


/-! ### the evaluator -/
abbrev Env := List (Option T)
abbrev Call := Nat → List T → List T → Out (T × Nat)
def bindTg (tg : Tg) (t : T) (env : Env) : Option Env := match tg with
  | .one i => some (env.set i (some t))
  | .many is => (match t with
    | .tup ts => if ts.length = is.length then some ((is.zip ts).foldl (fun e p => e.set p.1 (some p.2)) env) else none
    | _ => none)
def wipeE (env : Env) (own : List Nat) : Env := own.foldr (fun i e => e.set i none) env
def isFlat2 (r : T × Nat) : Bool := r.2 == 2 || r.1.flat
def allFl (rs : List (T × Nat)) : Bool := rs.all isFlat2
def rangeT (lo : Int) (n : Nat) : List T := (List.range n).map fun (i : Nat) => T.int (lo + (i : Int))
def enumT (ts : List T) : List T := (List.range ts.length).zip ts |>.map fun (p : Nat × T) => T.tup [.int (p.1 : Int), p.2]
def smallI (i : Int) : Bool := decide (-(2 ^ 62) ≤ i) && decide (i < 2 ^ 62)
def itemsV : T → Option (List T)
  | .lst ts => some ts
  | .tup ts => some ts
  | .str s => if s.length ≤ sizeL then some (s.map fun c => .str [c]) else none
  | _ => none
def biLen : List (T × Nat) → Option (T × Nat)
  | [(.lst ts, _)] => some (.int ts.length, 2)
  | [(.tup ts, _)] => some (.int ts.length, 2)
  | [(.fro ts, _)] => some (.int ts.length, 2)
  | [(.dic false ks _, _)] => some (.int ks.length, 2)
  | [(.str s, _)] => if s.length ≤ sizeL then some (.int s.length, 2) else none
  | _ => none
def biLis : List (T × Nat) → Option (T × Nat)
  | [(.lst ts, f)] => some (.lst ts, if f = 2 ∨ T.flats ts = true then 2 else 1)
  | [(.tup ts, f)] => some (.lst ts, if f = 2 ∨ T.flats ts = true then 2 else 1)
  | _ => none
def biSumI : List (T × Nat) → Option (T × Nat)
  | [(.lst ts, _)] => (intsOf ts).map fun is => (.int is.sum, 2)
  | _ => none
def biSumL : List (T × Nat) → Option (T × Nat)
  | [(.lst ts, f), (.lst [], 2)] => (listsOf ts).bind fun xs => if xs.length ≤ sizeL then some (.lst xs, if f = 2 then 2 else 1) else none
  | _ => none
def biInt1 : List (T × Nat) → Option (T × Nat)
  | [(.int i, _)] => some (.int i, 2)
  | _ => none
def biMax2 : List (T × Nat) → Option (T × Nat)
  | [(.int i, _), (.int j, _)] => some (.int (if j > i then j else i), 2)
  | _ => none
def reprV (t : T) : Option (List Nat) := if t.dat.showable && decide (t.dat.shown.length ≤ sizeL) && t.dat.shown.cps.toList.all (fun c => decide (c < 0x110000)) then some t.dat.shown.cps.toList else none
def biRepr : List (T × Nat) → Option (T × Nat)
  | [(t, _)] => if t.plain && decide (t.deep ≤ 64) then (reprV t).map fun s => (.str s, 2) else none
  | _ => none
def biSorted : List (T × Nat) → Option (T × Nat)
  | [(.lst ts, _)] => (sortV ts).map fun xs => (.lst xs, if T.flats xs then 2 else 1)
  | _ => none
def biSortSet : List (T × Nat) → Option (T × Nat)
  | [(.lst ts, _)] => (intsOf ts).bind fun is => if (once is).length < 64 ∧ is.length ≤ 4000 then some (.lst ((isort (fun a b => decide (a ≤ b)) (once is)).map T.int), 2) else none
  | _ => none
def biLenSet : List (T × Nat) → Option (T × Nat)
  | [(.lst ts, _)] => (match intsOf ts with
    | some is => if is.length ≤ 4000 then some (.int (once is).length, 2) else none
    | none => (blsOf ts).bind fun bs => if bs.length ≤ 4000 then some (.int (once bs).length, 2) else none)
  | _ => none
def biBits : List (T × Nat) → Option (T × Nat)
  | [(.int i, _)] => some (.int (if i = 0 then 0 else i.natAbs.log2 + 1), 2)
  | _ => none
def biV (b : Bi) (rs : List (T × Nat)) : Option (T × Nat) := match b with
  | .len => biLen rs
  | .lis => biLis rs
  | .sumI => biSumI rs
  | .sumL => biSumL rs
  | .int1 => biInt1 rs
  | .max2 => biMax2 rs
  | .repr => biRepr rs
  | .sorted => biSorted rs
  | .sortSet => biSortSet rs
  | .lenSet => biLenSet rs
  | .bits => biBits rs
def methV (g : List T) (m : Me) (t : T) (rs : List (T × Nat)) : Option (T × Nat) := match m, t, rs with
  | .index, .lst ts, [(x, _)] => if x.plain && T.plains ts && decide (x.deep ≤ 64) && decide (T.deeps ts < 64) then (ts.findIdx? fun z => z.eqv x).map fun (i : Nat) => (.int (i : Int), 2) else none
  | _, _, _ => none

mutual
def evalE (F : Call) (env : Env) : E → List T → Out (T × Nat)
  | .lit t, g => .ok (t, 2) g
  | .con _, _ => .bad
  | .var i, g => Out.of g ((env.getD i none).map fun t => (t, 0))
  | .tup es, g => (evalEs F env es g).bind fun rs g => .ok (.tup (rs.map (·.1)), if allFl rs then 2 else 0) g
  | .lst es, g => (evalEs F env es g).bind fun rs g => .ok (.lst (rs.map (·.1)), if allFl rs then 2 else 1) g
  | .bin o a b, g => (evalE F env a g).bind fun x g => (evalE F env b g).bind fun y g => Out.of g (binV o x.1 y.1 x.2 y.2)
  | .neg a, g => (evalE F env a g).bind fun x g => (match x.1 with
    | .int i => .ok (.int (-i), 2) g
    | _ => .bad)
  | .not a, g => (evalE F env a g).bind fun x g => Out.of g (x.1.truth.map fun b => (.bl (!b), 2))
  | .and a b, g => (evalE F env a g).bind fun x g => (match x.1.truth with
    | some true => evalE F env b g
    | some false => .ok x g
    | none => .bad)
  | .or a b, g => (evalE F env a g).bind fun x g => (match x.1.truth with
    | some true => .ok x g
    | some false => evalE F env b g
    | none => .bad)
  | .cmp o a b, g => (evalE F env a g).bind fun x g => (evalE F env b g).bind fun y g => Out.of g ((cmpV o x.1 y.1).map fun c => (.bl c, 2))
  | .chain o o' a b c, g => (evalE F env a g).bind fun x g => (evalE F env b g).bind fun y g => (match cmpV o x.1 y.1 with
    | some true => (evalE F env c g).bind fun z g => Out.of g ((cmpV o' y.1 z.1).map fun c => (.bl c, 2))
    | some false => .ok (.bl false, 2) g
    | none => .bad)
  | .ite c a b, g => (evalE F env c g).bind fun x g => (match x.1.truth with
    | some true => evalE F env a g
    | some false => evalE F env b g
    | none => .bad)
  | .idx a i, g => (evalE F env a g).bind fun x g => (evalE F env i g).bind fun y g => Out.of g (idxV g x.1 y.1 x.2)
  | .slc a lo hi, g => (evalE F env a g).bind fun x g => (evalE F env lo g).bind fun l g => (evalE F env hi g).bind fun h g =>
      Out.of g ((partOf lo l.1).bind fun l => (partOf hi h.1).bind fun h => slcV x.1 l h x.2)
  | .rev a, g => (evalE F env a g).bind fun x g => (match x.1 with
    | .lst ts => .ok (.lst ts.reverse, if x.2 = 2 then 2 else 1) g
    | _ => .bad)
  | .call f es, g => (evalEs F env es g).bind fun rs g => F f (rs.map (·.1)) g
  | .callK f pm _ es, g => (evalEs F env es g).bind fun rs g => F f (pm.map fun i => (rs.map (·.1)).getD i .non) g
  | .bi b es, g => (evalEs F env es g).bind fun rs g => Out.of g (biV b rs)
  | .isi a tys, g => (evalE F env a g).bind fun x g => if noTy x.1 then .bad else .ok (.bl (tys.any fun y => isTy x.1 y), 2) g
  | .comp elt own tg it cond, g => (evalIt F env it g).bind fun ts g => (compL ts g fun t g => match bindTg tg t (wipeE env own) with
      | none => .bad
      | some env' => (evalE F env' cond g).bind fun c g => (match c.1.truth with
        | some true => (evalE F env' elt g).bind fun r g => .ok (some r) g
        | some false => .ok none g
        | none => .bad)).bind fun rs g => .ok (.lst (rs.map (·.1)), if allFl rs then 2 else 1) g
  | .meth m a es, g => (evalE F env a g).bind fun x g => (evalEs F env es g).bind fun rs g => Out.of g (methV g m x.1 rs)
  | .dic0 n, g => .ok (.dic n [] [], 1) g
  | .lrng1 a, g => (evalE F env a g).bind fun x g => (match x.1 with
    | .int i => if smallI i && decide (i.toNat ≤ sizeL) then .ok (.lst (rangeT 0 i.toNat), 2) g else .bad
    | _ => .bad)
def evalEs (F : Call) (env : Env) : Es → List T → Out (List (T × Nat))
  | .nil, g => .ok [] g
  | .cons e es, g => (evalE F env e g).bind fun x g => (evalEs F env es g).bind fun xs g => .ok (x :: xs) g
/-- what a loop walks -/
def evalIt (F : Call) (env : Env) : It → List T → Out (List T)
  | .seq e, g => (evalE F env e g).bind fun x g => Out.of g (itemsV x.1)
  | .rng1 e, g => (evalE F env e g).bind fun x g => (match x.1 with
    | .int i => if smallI i && decide (i.toNat ≤ sizeL) then .ok (rangeT 0 i.toNat) g else .bad
    | _ => .bad)
  | .rng2 a b, g => (evalE F env a g).bind fun x g => (evalE F env b g).bind fun y g => (match x.1, y.1 with
    | .int i, .int j => if smallI i && smallI j && decide ((j - i).toNat ≤ sizeL) then .ok (rangeT i (j - i).toNat) g else .bad
    | _, _ => .bad)
  | .enum e, g => (evalE F env e g).bind fun x g => (match x.1 with
    | .lst ts => .ok (enumT ts) g
    | _ => .bad)
  | .zip a b, g => (evalE F env a g).bind fun x g => (evalE F env b g).bind fun y g => (match x.1, y.1 with
    | .lst xs, .lst ys => .ok ((xs.zip ys).map fun p => .tup [p.1, p.2]) g
    | _, _ => .bad)
end
end Fx
end

section
set_option Elab.async false
set_option linter.all false
set_option maxRecDepth 100000
/-! Fx2: how the abstract heap bears a tree. -/
namespace Fx
open PySem PySem.Spec PyProof.Rows L2

def Keep (ρ : List Addr) (H H' : Hp) : Prop := ∀ a o, H a = some o → a ∉ ρ → H' a = some o
theorem Keep.refl (ρ : List Addr) (H : Hp) : Keep ρ H H := fun _ _ e _ => e
theorem Keep.trans {ρ : List Addr} {H H1 H2 : Hp} (k : Keep ρ H H1) (k' : Keep ρ H1 H2) : Keep ρ H H2 := fun a o e n => k' a o (k a o e n) n
theorem Keep.upd {ρ : List Addr} {H : Hp} {p : Addr} {o : HO} (n : H p = none) : Keep ρ H (upd H p o) := fun a u e _ => by
  rw [upd_ne (ne_of_none e n)]
  exact e

/-- a list that nothing changes: locked, or of the written part -/
def Froz (K : PySem.W.Frag) (H : Hp) (a : Addr) (vs : List V) : Prop :=
  (∃ o, H a = some (.frz o (.lst vs))) ∨
    ∃ (o : Obj) (its : Array Value) (n : Nat), K.lookup a = some o ∧ o.cls = .type "list" ∧ o.dict = none ∧ o.data = .seq its n ∧ its.size ≤ sizeLine ∧ Vals vs its.toList
theorem Froz.sq {K : PySem.W.Frag} {H : Hp} {a : Addr} {vs : List V} (h : Froz K H a vs) : SqL K H a vs := by
  rcases h with ⟨o, h⟩ | h
  · exact .inl (.inr ⟨o, h⟩)
  · exact .inr h

def keyT : Key → T
  | .inl i => .int i
  | .inr x => .str x.cps.toList
mutual
def T.nk : T → NestedKey
  | .bl b => .num (if b = true then 1 else 0)
  | .int i => .num i
  | .str s => .text ⟨s.toArray⟩
  | .tup ts => .tup (T.nks ts)
  | _ => .none
def T.nks : List T → List NestedKey
  | [] => []
  | x :: xs => T.nk x :: T.nks xs
end
/-- the entries of a dict: keys, where their tuples stand, values -/
def ents (w : World) : List NestedKey → List Addr → List Value → List DictEntry
  | k :: ks, a :: as, u :: us => ⟨k.hash w, .ref a, u⟩ :: ents w ks as us
  | _, _, _ => []
def DictIs (w : World) (a : Addr) (nks : List NestedKey) (kas : List Addr) (vs : List V) (h : Heap) : Prop :=
  (a == sysModules) = false ∧ vs.length ≤ sizeLine ∧ ∃ o es ep us, h.get? a = some o ∧ o.ExactDict ∧ o.data = .dict es ep ∧ Vals vs us ∧ es.toList = ents w nks kas us

mutual
inductive R (w : World) (K : PySem.W.Frag) (ρ : List Addr) (B : Addr → Prop) (H : Hp) : Bool → V → T → List Addr → Prop
  | non {o} : R w K ρ B H o .non .non []
  | bl {o} (b : Bool) : R w K ρ B H o (.bl b) (.bl b) []
  | int {o} (i : Int) : R w K ρ B H o (.int i) (.int i) []
  | str {o} (s : List Nat) : (∀ c ∈ s, c < 0x110000) → R w K ρ B H o (.str ⟨s.toArray⟩) (.str s) []
  | tup {o a vs ts A} : SqT K H a vs → Rs w K ρ B H o vs ts A → R w K ρ B H o (.ref a) (.tup ts) A
  | lst0 {a vs ts} : ¬ B a → H a = some (.lst vs) → Rs w K ρ B H false vs ts [] → R w K ρ B H false (.ref a) (.lst ts) []
  | lst2 {a vs ts A} : H a = some (.lst vs) → Rs w K ρ B H true vs ts A → R w K ρ B H true (.ref a) (.lst ts) (a :: A)
  | fro {a vs ts} : Froz K H a vs → Rs w K ρ B H false vs ts [] → R w K ρ B H false (.ref a) (.fro ts) []
  | cell {o a n} : ρ[n]? = some a → R w K ρ B H o (.ref a) (.cell n) []
  | dicS {a kvs ts} : ¬ B a → H a = some (.dK kvs) → Rs w K ρ B H false (kvs.map (·.2)) ts [] → R w K ρ B H false (.ref a) (.dic false (kvs.map fun p => keyT p.1) ts) []
  | dicN {a kas vs ks ts} : ¬ B a → H a = some (.ext (DictIs w a (T.nks ks) kas vs)) → kas.length = vs.length → (T.nks ks).Nodup → ks.all (keyOk true) = true → Rs w K ρ B H true (kas.map V.ref) ks [] → Rs w K ρ B H false vs ts [] → R w K ρ B H false (.ref a) (.dic true ks ts) []
inductive Rs (w : World) (K : PySem.W.Frag) (ρ : List Addr) (B : Addr → Prop) (H : Hp) : Bool → List V → List T → List Addr → Prop
  | nil {o} : Rs w K ρ B H o [] [] []
  | cons {o v vs t ts A A'} : R w K ρ B H o v t A → Rs w K ρ B H o vs ts A' → Rs w K ρ B H o (v :: vs) (t :: ts) (A ++ A')
end

section
variable {w : World} {K : PySem.W.Frag} {ρ ρ' : List Addr} {B B' : Addr → Prop} {H H' : Hp}


/-- cells are lists or dicts: tuples and locked things are never among them -/
structure Apart (ρ : List Addr) (H : Hp) : Prop where
  tup : ∀ a xs, H a = some (.tup xs) → a ∉ ρ
  frz : ∀ a o u, H a = some (.frz o u) → a ∉ ρ

/-- to a later heap: what is not bad stands as it stood; what is added to the bad was not there -/
structure Mv (ρ ρ' : List Addr) (B B' : Addr → Prop) (H H' : Hp) : Prop where
  keep : ∀ a o, H a = some o → ¬ B a → H' a = some o
  tups : ∀ a xs, H a = some (.tup xs) → H' a = some (.tup xs)
  frzs : ∀ a o u, H a = some (.frz o u) → H' a = some (.frz o u)
  bad : ∀ a, B' a → B a ∨ H a = none
  more : ∃ r, ρ' = ρ ++ r
theorem Mv.of (k : Keep ρ H H') (ap : Apart ρ H) (c : ∀ a ∈ ρ, B a) (b : ∀ a, B' a → B a ∨ H a = none) (m : ∃ r, ρ' = ρ ++ r) : Mv ρ ρ' B B' H H' :=
  ⟨fun a o e n => k a o e fun z => n (c a z), fun a xs e => k a _ e (ap.tup a xs e), fun a o u e => k a _ e (ap.frz a o u e), b, m⟩
theorem Mv.get {n : Nat} {a : Addr} (m : Mv ρ ρ' B B' H H') (h : ρ[n]? = some a) : ρ'[n]? = some a := by
  obtain ⟨r, rfl⟩ := m.more
  rw [List.getElem?_append_left (List.getElem?_eq_some_iff.mp h).1]
  exact h
theorem Mv.nb {a : Addr} {o : HO} (m : Mv ρ ρ' B B' H H') (h : ¬ B a) (e : H a = some o) : ¬ B' a ∧ H' a = some o := by
  refine ⟨fun z => ?_, m.keep _ _ e h⟩
  rcases m.bad _ z with z | z
  · exact h z
  · rw [z] at e; cases e
theorem Mv.sqT {a : Addr} {vs : List V} (m : Mv ρ ρ' B B' H H') (h : SqT K H a vs) : SqT K H' a vs := by
  rcases h with h | h
  · rcases h with h | ⟨o, h⟩
    · exact .inl (.inl (m.tups _ _ h))
    · exact .inl (.inr ⟨o, m.frzs _ _ _ h⟩)
  · exact .inr h
theorem Mv.froz {a : Addr} {vs : List V} (m : Mv ρ ρ' B B' H H') (h : Froz K H a vs) : Froz K H' a vs := by
  rcases h with ⟨o, h⟩ | h
  · exact .inl ⟨o, m.frzs _ _ _ h⟩
  · exact .inr h
/-- some more are bad on both sides -/
theorem Mv.add {C : Addr → Prop} (m : Mv ρ ρ' B B' H H') : Mv ρ ρ' (fun a => B a ∨ C a) (fun a => B' a ∨ C a) H H' :=
  ⟨fun a o e n => m.keep a o e fun z => n (.inl z), m.tups, m.frzs, fun a z => by
    rcases z with z | z
    · rcases m.bad a z with y | y
      · exact .inl (.inl y)
      · exact .inr y
    · exact .inl (.inr z), m.more⟩

mutual
theorem R.mv (m : Mv ρ ρ' B B' H H') : ∀ {o : Bool} {v : V} {t : T} {A : List Addr}, R w K ρ B H o v t A → (∀ a ∈ A, ¬ B a) → R w K ρ' B' H' o v t A
  | _, _, _, _, .non, _ => .non
  | _, _, _, _, .bl b, _ => .bl b
  | _, _, _, _, .int i, _ => .int i
  | _, _, _, _, .str s h, _ => .str s h
  | _, _, _, _, .tup h1 h2, hA => .tup (m.sqT h1) (Rs.mv m h2 hA)
  | _, _, _, _, .lst0 h1 h2 h3, hA => .lst0 (m.nb h1 h2).1 (m.nb h1 h2).2 (Rs.mv m h3 (by simp))
  | _, _, _, _, .lst2 h1 h2, hA => .lst2 (m.keep _ _ h1 (hA _ (by simp))) (Rs.mv m h2 fun a ha => hA a (by simp [ha]))
  | _, _, _, _, .fro h1 h2, hA => .fro (m.froz h1) (Rs.mv m h2 (by simp))
  | _, _, _, _, .cell h, hA => .cell (m.get h)
  | _, _, _, _, .dicS h1 h2 h3, hA => .dicS (m.nb h1 h2).1 (m.nb h1 h2).2 (Rs.mv m h3 (by simp))
  | _, _, _, _, .dicN h1 h2 h3 h4 hk h5 h6, hA => .dicN (m.nb h1 h2).1 (m.nb h1 h2).2 h3 h4 hk (Rs.mv m h5 (by simp)) (Rs.mv m h6 (by simp))
theorem Rs.mv (m : Mv ρ ρ' B B' H H') : ∀ {o : Bool} {vs : List V} {ts : List T} {A : List Addr}, Rs w K ρ B H o vs ts A → (∀ a ∈ A, ¬ B a) → Rs w K ρ' B' H' o vs ts A
  | _, _, _, _, .nil, _ => .nil
  | _, _, _, _, .cons h1 h2, hA => .cons (R.mv m h1 fun a ha => hA a (List.mem_append.mpr (.inl ha))) (Rs.mv m h2 fun a ha => hA a (List.mem_append.mpr (.inr ha)))
end

mutual
/-- what is shared owns nothing -/
theorem R.nil : ∀ {v : V} {t : T} {A : List Addr}, R w K ρ B H false v t A → A = []
  | _, _, _, .non => rfl
  | _, _, _, .bl b => rfl
  | _, _, _, .int i => rfl
  | _, _, _, .str s h => rfl
  | _, _, _, .tup h1 h2 => Rs.nil0 h2
  | _, _, _, .lst0 h1 h2 h3 => rfl
  | _, _, _, .fro h1 h2 => rfl
  | _, _, _, .cell h => rfl
  | _, _, _, .dicS .. => rfl
  | _, _, _, .dicN .. => rfl
theorem Rs.nil0 : ∀ {vs : List V} {ts : List T} {A : List Addr}, Rs w K ρ B H false vs ts A → A = []
  | _, _, _, .nil => rfl
  | _, _, _, .cons h1 h2 => by rw [R.nil h1, Rs.nil0 h2]; rfl
end
mutual
/-- owned becomes shared -/
theorem R.sh : ∀ {o : Bool} {v : V} {t : T} {A : List Addr}, R w K ρ B H o v t A → (∀ a ∈ A, ¬ B a) → R w K ρ B H false v t []
  | _, _, _, _, .non, _ => .non
  | _, _, _, _, .bl b, _ => .bl b
  | _, _, _, _, .int i, _ => .int i
  | _, _, _, _, .str s h, _ => .str s h
  | _, _, _, _, .tup h1 h2, hA => .tup h1 (Rs.sh h2 hA)
  | _, _, _, _, .lst0 h1 h2 h3, hA => .lst0 h1 h2 h3
  | _, _, _, _, .lst2 h1 h2, hA => .lst0 (hA _ (by simp)) h1 (Rs.sh h2 fun a ha => hA a (by simp [ha]))
  | _, _, _, _, .fro h1 h2, hA => .fro h1 h2
  | _, _, _, _, .cell h, hA => .cell h
  | _, _, _, _, .dicS h1 h2 h3, hA => .dicS h1 h2 h3
  | _, _, _, _, .dicN h1 h2 h3 h4 hk h5 h6, hA => .dicN h1 h2 h3 h4 hk h5 h6
theorem Rs.sh : ∀ {o : Bool} {vs : List V} {ts : List T} {A : List Addr}, Rs w K ρ B H o vs ts A → (∀ a ∈ A, ¬ B a) → Rs w K ρ B H false vs ts []
  | _, _, _, _, .nil, _ => .nil
  | _, _, _, _, .cons h1 h2, hA => .cons (A := []) (A' := []) (R.sh h1 fun a ha => hA a (List.mem_append.mpr (.inl ha))) (Rs.sh h2 fun a ha => hA a (List.mem_append.mpr (.inr ha)))
end
mutual
/-- what holds no list is anybody's -/
theorem R.flat : ∀ {o o' : Bool} {v : V} {t : T} {A : List Addr}, R w K ρ B H o v t A → t.flat = true → R w K ρ B' H o' v t [] ∧ A = []
  | _, _, _, _, _, .non, _ => ⟨.non, rfl⟩
  | _, _, _, _, _, .bl b, _ => ⟨.bl b, rfl⟩
  | _, _, _, _, _, .int i, _ => ⟨.int i, rfl⟩
  | _, _, _, _, _, .str s h, _ => ⟨.str s h, rfl⟩
  | _, _, _, _, _, .tup h1 h2, hf => ⟨.tup h1 (Rs.flat h2 hf).1, (Rs.flat (o' := false) h2 hf).2⟩
  | _, _, _, _, _, .lst0 h1 h2 h3, hf => by cases hf
  | _, _, _, _, _, .lst2 h1 h2, hf => by cases hf
  | _, _, _, _, _, .fro h1 h2, hf => by cases hf
  | _, _, _, _, _, .cell h, hf => ⟨.cell h, rfl⟩
  | _, _, _, _, _, .dicS h1 h2 h3, hf => by cases hf
  | _, _, _, _, _, .dicN h1 h2 h3 h4 hk h5 h6, hf => by cases hf
theorem Rs.flat : ∀ {o o' : Bool} {vs : List V} {ts : List T} {A : List Addr}, Rs w K ρ B H o vs ts A → T.flats ts = true → Rs w K ρ B' H o' vs ts [] ∧ A = []
  | _, _, _, _, _, .nil, _ => ⟨.nil, rfl⟩
  | _, _, _, _, _, .cons h1 h2, hf => by
    have hf' := Bool.and_eq_true_iff.mp (show (T.flat _ && T.flats _) = true from hf)
    obtain ⟨a1, a2⟩ := R.flat h1 hf'.1
    obtain ⟨b1, b2⟩ := Rs.flat h2 hf'.2
    exact ⟨.cons (A := []) (A' := []) a1 b1, by rw [a2, b2]; rfl⟩
end
mutual
/-- a smaller bad set -/
theorem R.weak (h : ∀ a, B' a → B a) : ∀ {o : Bool} {v : V} {t : T} {A : List Addr}, R w K ρ B H o v t A → R w K ρ B' H o v t A
  | _, _, _, _, .non => .non
  | _, _, _, _, .bl b => .bl b
  | _, _, _, _, .int i => .int i
  | _, _, _, _, .str s h => .str s h
  | _, _, _, _, .tup h1 h2 => .tup h1 (Rs.weak h h2)
  | _, _, _, _, .lst0 h1 h2 h3 => .lst0 (fun z => h1 (h _ z)) h2 (Rs.weak h h3)
  | _, _, _, _, .lst2 h1 h2 => .lst2 h1 (Rs.weak h h2)
  | _, _, _, _, .fro h1 h2 => .fro h1 (Rs.weak h h2)
  | _, _, _, _, .cell h1 => .cell h1
  | _, _, _, _, .dicS h1 h2 h3 => .dicS (fun z => h1 (h _ z)) h2 (Rs.weak h h3)
  | _, _, _, _, .dicN h1 h2 h3 h4 hk h5 h6 => .dicN (fun z => h1 (h _ z)) h2 h3 h4 hk (Rs.weak h h5) (Rs.weak h h6)
theorem Rs.weak (h : ∀ a, B' a → B a) : ∀ {o : Bool} {vs : List V} {ts : List T} {A : List Addr}, Rs w K ρ B H o vs ts A → Rs w K ρ B' H o vs ts A
  | _, _, _, _, .nil => .nil
  | _, _, _, _, .cons h1 h2 => .cons (R.weak h h1) (Rs.weak h h2)
end
mutual
/-- owned things are there -/
theorem R.there : ∀ {o : Bool} {v : V} {t : T} {A : List Addr}, R w K ρ B H o v t A → ∀ a ∈ A, H a ≠ none
  | _, _, _, _, .non, _, h => by simp at h
  | _, _, _, _, .bl b, _, h => by simp at h
  | _, _, _, _, .int i, _, h => by simp at h
  | _, _, _, _, .str s _, _, h => by simp at h
  | _, _, _, _, .tup h1 h2, a, h => Rs.there h2 a h
  | _, _, _, _, .lst0 h1 h2 h3, _, h => by simp at h
  | _, _, _, _, .lst2 h1 h2, a, h => by
    rcases List.mem_cons.mp h with rfl | h
    · rw [h1]; simp
    · exact Rs.there h2 a h
  | _, _, _, _, .fro h1 h2, _, h => by simp at h
  | _, _, _, _, .cell h1, _, h => by simp at h
  | _, _, _, _, .dicS h1 h2 h3, _, h => by simp at h
  | _, _, _, _, .dicN h1 h2 h3 h4 hk h5 h6, _, h => by simp at h
theorem Rs.there : ∀ {o : Bool} {vs : List V} {ts : List T} {A : List Addr}, Rs w K ρ B H o vs ts A → ∀ a ∈ A, H a ≠ none
  | _, _, _, _, .nil, _, h => by simp at h
  | _, _, _, _, .cons h1 h2, a, h => by
    rcases List.mem_append.mp h with h | h
    · exact R.there h1 a h
    · exact Rs.there h2 a h
end
theorem Rs.length {o : Bool} : ∀ {vs : List V} {ts : List T} {A : List Addr}, Rs w K ρ B H o vs ts A → vs.length = ts.length
  | _, _, _, .nil => rfl
  | _, _, _, .cons _ h => by simp [Rs.length h]
end
end Fx
end

section
set_option Elab.async false
set_option linter.all false
set_option maxRecDepth 100000
/-! Fx3: results, situations, weakest transformers. -/
namespace Fx
open PySem PySem.Spec PyProof.Rows L2

/-! ### weakest transformers -/
section
variable {X : Cx} {e : Expr} {es : List Expr} {σ : L2.St} {H : Hp}
def wE (X : Cx) (e : Expr) : TE := fun σ H Q => ∀ (pins : List (Addr × Obj)) (s : Shared), L2.Inv X pins σ H s → wpAny (model X.prog X.w) X.A (eval e X.env) (EP X pins σ Q) X.xe s
def wT (X : Cx) (e : Expr) : TT := fun σ H Q => ∀ (pins : List (Addr × Obj)) (s : Shared), L2.Inv X pins σ H s → wpAny (model X.prog X.w) X.A (PySem.isTrue e X.env (eval e X.env)) (TP X pins σ Q) X.xe s
def wA (X : Cx) (es : List Expr) : TA := fun σ H Q => ∀ (pos : Pos) (pins : List (Addr × Obj)) (s : Shared), L2.Inv X pins σ H s → wpAny (model X.prog X.w) X.A (spliced (backTo pos (starEach es X.env))) (AP X pins σ Q) X.xe s
theorem wE.pe (X : Cx) (e : Expr) : PE X e (wE X e) := ⟨fun pins s _ _ _ I h => h pins s I⟩
theorem wT.pt (X : Cx) (e : Expr) : PT X e (wT X e) := ⟨fun pins s _ _ _ I h => h pins s I⟩
theorem wA.pa (X : Cx) (es : List Expr) : PA X es (wA X es) := ⟨fun pos pins s _ _ _ I h => h pos pins s I⟩
theorem wE.of {t : TE} {Q : VK} (h : PE X e t) (q : t σ H Q) : wE X e σ H Q := fun pins s I => h.run pins s σ H Q I q
theorem wT.of {t : TT} {Q : Bool → Hp → Prop} (h : PT X e t) (q : t σ H Q) : wT X e σ H Q := fun pins s I => h.run pins s σ H Q I q
theorem wA.of {t : TA} {Q : List V → Hp → Prop} (h : PA X es t) (q : t σ H Q) : wA X es σ H Q := fun pos pins s I => h.run pos pins s σ H Q I q
theorem wE.mono {Q Q' : VK} (h : wE X e σ H Q) (k : ∀ v H', Q v H' → Q' v H') : wE X e σ H Q' := fun pins s I =>
  thn (h pins s I) fun _ _ ⟨v, H', I', r, q⟩ => ⟨v, H', I', r, k v H' q⟩
theorem wT.mono {Q Q' : Bool → Hp → Prop} (h : wT X e σ H Q) (k : ∀ v H', Q v H' → Q' v H') : wT X e σ H Q' := fun pins s I =>
  thn (h pins s I) fun _ _ ⟨H', I', q⟩ => ⟨H', I', k _ H' q⟩
theorem wA.mono {Q Q' : List V → Hp → Prop} (h : wA X es σ H Q) (k : ∀ v H', Q v H' → Q' v H') : wA X es σ H Q' := fun pos pins s I =>
  thn (h pos pins s I) fun _ _ ⟨vs, H', I', r, q⟩ => ⟨vs, H', I', r, k vs H' q⟩
/-- no list, no tuple is too long -/
structure Fit (K : PySem.W.Frag) (H : Hp) : Prop where
  lst : ∀ a vs, SqL K H a vs → vs.length ≤ sizeLine
  tup : ∀ a vs, SqT K H a vs → vs.length ≤ sizeLine
theorem fit_of {pins : List (Addr × Obj)} {s : Shared} (I : L2.Inv X pins σ H s) : Fit X.K H :=
  ⟨fun _ _ h => let ⟨_, _, _, z⟩ := I.list h; z, fun _ _ h => let ⟨_, _, _, z⟩ := I.tuple h; z⟩
theorem wE.fit {Q : VK} (h : Fit X.K H → wE X e σ H Q) : wE X e σ H Q := fun pins s I => h (fit_of I) pins s I
theorem wE.fits {Q : VK} (h : wE X e σ H fun v H' => Fit X.K H' → Q v H') : wE X e σ H Q := fun pins s I =>
  thn (h pins s I) fun _ _ ⟨v, H', I', r, q⟩ => ⟨v, H', I', r, q (fit_of I')⟩
theorem wA.fits {Q : List V → Hp → Prop} (h : wA X es σ H fun v H' => Fit X.K H' → Q v H') : wA X es σ H Q := fun pos pins s I =>
  thn (h pos pins s I) fun _ _ ⟨v, H', I', r, q⟩ => ⟨v, H', I', r, q (fit_of I')⟩
end

/-! ### results -/
inductive Top (w : World) (K : PySem.W.Frag) (ρ : List Addr) (B : Addr → Prop) (H : Hp) (a : Addr) : T → Prop
  | lst {vs ts} : H a = some (.lst vs) → Rs w K ρ B H false vs ts [] → Top w K ρ B H a (.lst ts)
  | dicS {kvs ts} : H a = some (.dK kvs) → Rs w K ρ B H false (kvs.map (·.2)) ts [] → Top w K ρ B H a (.dic false (kvs.map fun p => keyT p.1) ts)
  | dicN {kas vs ks ts} : H a = some (.ext (DictIs w a (T.nks ks) kas vs)) → kas.length = vs.length → (T.nks ks).Nodup → ks.all (keyOk true) = true → Rs w K ρ B H true (kas.map V.ref) ks [] → Rs w K ρ B H false vs ts [] → Top w K ρ B H a (.dic true ks ts)

/-- a value v that bears t, with its flag, and what it owns -/
def RF (w : World) (K : PySem.W.Frag) (ρ : List Addr) (B : Addr → Prop) (H : Hp) (v : V) (t : T) (fl : Nat) (A : List Addr) : Prop :=
  (fl = 0 ∧ A = [] ∧ R w K ρ B H false v t []) ∨
  (fl = 1 ∧ ∃ a, A = [a] ∧ v = .ref a ∧ ¬ B a ∧ Top w K ρ (fun b => B b ∨ b = a) H a t) ∨
  (fl = 2 ∧ R w K ρ B H true v t A ∧ A.Nodup ∧ ∀ a ∈ A, ¬ B a)

section
variable {w : World} {K : PySem.W.Frag} {ρ ρ' : List Addr} {B B' : Addr → Prop} {H H' : Hp} {v : V} {t : T} {fl : Nat} {A A' : List Addr}
theorem Top.mv {a : Addr} (m : Mv ρ ρ' B B' H H') (ha : ∀ o, H a = some o → H' a = some o) (h : Top w K ρ B H a t) : Top w K ρ' B' H' a t := by
  cases h with
  | lst h1 h2 => exact .lst (ha _ h1) (h2.mv m (by simp))
  | dicS h1 h2 => exact .dicS (ha _ h1) (h2.mv m (by simp))
  | dicN h1 h2 h3 hk h4 h5 => exact .dicN (ha _ h1) h2 h3 hk (h4.mv m (by simp)) (h5.mv m (by simp))
theorem Top.there {a : Addr} (h : Top w K ρ B H a t) : H a ≠ none := by
  cases h with
  | lst h1 _ => rw [h1]; simp
  | dicS h1 _ => rw [h1]; simp
  | dicN h1 _ _ _ _ _ => rw [h1]; simp
theorem Top.r {a : Addr} (h : Top w K ρ B H a t) (n : ¬ B a) : R w K ρ B H false (.ref a) t [] := by
  cases h with
  | lst h1 h2 => exact .lst0 n h1 h2
  | dicS h1 h2 => exact .dicS n h1 h2
  | dicN h1 h2 h3 hk h4 h5 => exact .dicN n h1 h2 h3 hk h4 h5
theorem Top.weak {a : Addr} (hb : ∀ a, B' a → B a) (h : Top w K ρ B H a t) : Top w K ρ B' H a t := by
  cases h with
  | lst h1 h2 => exact .lst h1 (h2.weak hb)
  | dicS h1 h2 => exact .dicS h1 (h2.weak hb)
  | dicN h1 h2 h3 hk h4 h5 => exact .dicN h1 h2 h3 hk (h4.weak hb) (h5.weak hb)
theorem RF.nb (h : RF w K ρ B H v t fl A) : ∀ a ∈ A, ¬ B a := by
  rcases h with ⟨_, rfl, _⟩ | ⟨_, a, rfl, _, h, _⟩ | ⟨_, _, _, h⟩
  · simp
  · intro b hb
    rw [List.mem_singleton.mp hb]
    exact h
  · exact h
theorem RF.there (h : RF w K ρ B H v t fl A) : ∀ a ∈ A, H a ≠ none := by
  rcases h with ⟨_, rfl, _⟩ | ⟨_, a, rfl, _, _, h⟩ | ⟨_, h, _, _⟩
  · simp
  · intro b hb
    rw [List.mem_singleton.mp hb]
    exact h.there
  · exact h.there
theorem RF.nodup (h : RF w K ρ B H v t fl A) : A.Nodup := by
  rcases h with ⟨_, rfl, _⟩ | ⟨_, a, rfl, _⟩ | ⟨_, _, h, _⟩
  · simp
  · simp
  · exact h
/-- all results may be shared -/
theorem RF.sh (h : RF w K ρ B H v t fl A) : R w K ρ B H false v t [] := by
  rcases h with ⟨_, _, h⟩ | ⟨_, a, rfl, rfl, n, h⟩ | ⟨_, h, _, n⟩
  · exact h
  · exact (h.weak (B' := B) fun _ z => .inl z).r n
  · exact h.sh n

theorem RF.mv (m : Mv ρ ρ' B B' H H') (h : RF w K ρ B H v t fl A) : RF w K ρ' B' H' v t fl A := by
  have nb := h.nb
  have th := h.there
  have nb' : ∀ a ∈ A, ¬ B' a := fun a ha z => by
    rcases m.bad a z with z | z
    · exact nb a ha z
    · exact th a ha z
  rcases h with ⟨e, rfl, h⟩ | ⟨e, a, rfl, rfl, n, h⟩ | ⟨e, h, nd, _⟩
  · exact .inl ⟨e, rfl, h.mv m (by simp)⟩
  · exact .inr (.inl ⟨e, a, rfl, rfl, nb' a (by simp), h.mv m.add fun o eo => m.keep a o eo n⟩)
  · exact .inr (.inr ⟨e, h.mv m nb, nd, nb'⟩)
theorem RF.flat (h : RF w K ρ B H v t fl A) (f : t.flat = true) : R w K ρ B' H true v t [] ∧ A = [] := by
  rcases h with ⟨e, rfl, h⟩ | ⟨e, a, rfl, rfl, n, h⟩ | ⟨e, h, nd, _⟩
  · exact ⟨(h.flat f).1, rfl⟩
  · cases h <;> cases f
  · exact ⟨(h.flat f).1, (h.flat (o' := false) (B' := B) f).2⟩
theorem RF.weakB (hb : ∀ a, B' a → B a) (h : RF w K ρ B H v t fl A) : RF w K ρ B' H v t fl A := by
  rcases h with ⟨e, rfl, h⟩ | ⟨e, a, rfl, rfl, n, h⟩ | ⟨e, h, nd, n⟩
  · exact .inl ⟨e, rfl, h.weak hb⟩
  · exact .inr (.inl ⟨e, a, rfl, rfl, fun z => n (hb _ z), h.weak fun b z => z.imp (hb b) id⟩)
  · exact .inr (.inr ⟨e, h.weak hb, nd, fun a ha z => n a ha (hb _ z)⟩)
theorem R.rf {o : Bool} (h : R w K ρ B H o v t []) (e : o = true ∧ fl = 2 ∨ o = false ∧ fl = 0) : RF w K ρ B H v t fl [] := by
  rcases e with ⟨rfl, rfl⟩ | ⟨rfl, rfl⟩
  · exact .inr (.inr ⟨rfl, h, .nil, by simp⟩)
  · exact .inl ⟨rfl, rfl, h⟩

end
inductive RFs (w : World) (K : PySem.W.Frag) (ρ : List Addr) (H : Hp) : (Addr → Prop) → List V → List (T × Nat) → List Addr → Prop
  | nil {B} : RFs w K ρ H B [] [] []
  | cons {B v r A vs rs A'} : RF w K ρ (fun a => B a ∨ a ∈ A') H v r.1 r.2 A → RFs w K ρ H (fun a => B a ∨ a ∈ A) vs rs A' → RFs w K ρ H B (v :: vs) (r :: rs) (A ++ A')
section
variable {w : World} {K : PySem.W.Frag} {ρ ρ' : List Addr} {B B' : Addr → Prop} {H H' : Hp} {v : V} {t : T} {fl : Nat} {A A' : List Addr}
theorem RFs.nb : ∀ {B : Addr → Prop} {vs : List V} {rs : List (T × Nat)} {A : List Addr}, RFs w K ρ H B vs rs A → ∀ a ∈ A, ¬ B a
  | _, _, _, _, .nil, _, h => by simp at h
  | _, _, _, _, .cons h1 h2, a, h => by
    rcases List.mem_append.mp h with h | h
    · exact fun z => h1.nb a h (.inl z)
    · exact fun z => h2.nb a h (.inl z)
theorem RFs.there : ∀ {B : Addr → Prop} {vs : List V} {rs : List (T × Nat)} {A : List Addr}, RFs w K ρ H B vs rs A → ∀ a ∈ A, H a ≠ none
  | _, _, _, _, .nil, _, h => by simp at h
  | _, _, _, _, .cons h1 h2, a, h => by
    rcases List.mem_append.mp h with h | h
    · exact h1.there a h
    · exact h2.there a h
theorem RFs.nodup : ∀ {B : Addr → Prop} {vs : List V} {rs : List (T × Nat)} {A : List Addr}, RFs w K ρ H B vs rs A → A.Nodup
  | _, _, _, _, .nil => .nil
  | _, _, _, _, .cons h1 h2 => List.nodup_append.mpr ⟨h1.nodup, h2.nodup, fun a ha b hb e => by
    subst e
    exact h1.nb a ha (.inr hb)⟩
theorem RFs.length : ∀ {B : Addr → Prop} {vs : List V} {rs : List (T × Nat)} {A : List Addr}, RFs w K ρ H B vs rs A → vs.length = rs.length
  | _, _, _, _, .nil => rfl
  | _, _, _, _, .cons h1 h2 => by simp [RFs.length h2]
theorem RFs.sh : ∀ {B : Addr → Prop} {vs : List V} {rs : List (T × Nat)} {A : List Addr}, RFs w K ρ H B vs rs A → Rs w K ρ B H false vs (rs.map (·.1)) []
  | _, _, _, _, .nil => .nil
  | _, _, _, _, .cons h1 h2 => .cons (A := []) (A' := []) (h1.sh.weak fun _ z => .inl z) (h2.sh.weak fun _ z => .inl z)
/-- all of flag 2: one owned whole -/
theorem RFs.own : ∀ {B : Addr → Prop} {vs : List V} {rs : List (T × Nat)} {A : List Addr}, RFs w K ρ H B vs rs A → allFl rs = true → Rs w K ρ B H true vs (rs.map (·.1)) A
  | _, _, _, _, .nil, _ => .nil
  | _, _, _, _, .cons h1 h2, f => by
    have f' : (isFlat2 _ && allFl _) = true := f
    obtain ⟨f1, f2⟩ := Bool.and_eq_true_iff.mp f'
    refine .cons ?_ ((h2.own f2).weak fun _ z => .inl z)
    rcases Bool.or_eq_true_iff.mp f1 with f1 | f1
    · have e := eq_of_beq f1
      rcases h1 with ⟨z, _⟩ | ⟨z, _⟩ | ⟨_, h, _⟩
      · rw [e] at z; cases z
      · rw [e] at z; cases z
      · exact h.weak fun _ z => .inl z
    · obtain ⟨k1, k2⟩ := h1.flat (B' := _) f1
      rw [k2]
      exact k1
theorem RFs.mv : ∀ {B B' : Addr → Prop} {vs : List V} {rs : List (T × Nat)} {A : List Addr}, Mv ρ ρ' B B' H H' → RFs w K ρ H B vs rs A → RFs w K ρ' H' B' vs rs A
  | _, _, _, _, _, m, .nil => .nil
  | _, _, _, _, _, m, .cons h1 h2 => .cons (h1.mv m.add) (h2.mv m.add)
theorem RFs.weak : ∀ {B B' : Addr → Prop} {vs : List V} {rs : List (T × Nat)} {A : List Addr}, (∀ a, B' a → B a) → RFs w K ρ H B vs rs A → RFs w K ρ H B' vs rs A
  | _, _, _, _, _, hb, .nil => .nil
  | _, _, _, _, _, hb, .cons h1 h2 => .cons (h1.weakB fun a z => z.imp (hb a) id) (h2.weak fun a z => z.imp (hb a) id)
end

/-! ### cells, situations -/
structure Cells (w : World) (K : PySem.W.Frag) (ρ : List Addr) (H : Hp) (g : List T) : Prop where
  len : ρ.length = g.length
  nd : ρ.Nodup
  at_ : ∀ (n : Nat) (a : Addr) (t : T), ρ[n]? = some a → g[n]? = some t → ∃ vs ts, t = .lst ts ∧ H a = some (.lst vs) ∧ Rs w K [] (fun _ => True) H true vs ts [] ∧ T.flats ts = true
/-- what holds where an expression begins -/
structure Sit (w : World) (K : PySem.W.Frag) (ρ : List Addr) (B : Addr → Prop) (H : Hp) (g : List T) (env : Env) (σ : L2.St) : Prop where
  cells : Cells w K ρ H g
  bad : ∀ a ∈ ρ, B a
  badT : ∀ a, B a → H a ≠ none
  env : ∀ (i : Nat) (t : T), env.getD i none = some t → ∃ v, σ[i]? = some (some v) ∧ R w K ρ B H false v t []
theorem Cells.apart {w : World} {K : PySem.W.Frag} {ρ : List Addr} {H : Hp} {g : List T} (c : Cells w K ρ H g) : Apart ρ H := by
  have key : ∀ a ∈ ρ, ∃ vs, H a = some (.lst vs) := fun a ha => by
    obtain ⟨n, hn⟩ := List.mem_iff_getElem?.mp ha
    have hlt : n < g.length := by
      rw [← c.len]
      exact (List.getElem?_eq_some_iff.mp hn).1
    obtain ⟨vs, ts, _, h, _⟩ := c.at_ n a _ hn (List.getElem?_eq_getElem hlt)
    exact ⟨vs, h⟩
  refine ⟨fun a xs e ha => ?_, fun a o u e ha => ?_⟩
  · obtain ⟨vs, h⟩ := key a ha
    rw [e] at h; cases h
  · obtain ⟨vs, h⟩ := key a ha
    rw [e] at h; cases h

/-- the end of an expression: t with its flag, the cells g' -/
def Post (w : World) (K : PySem.W.Frag) (ρ : List Addr) (B : Addr → Prop) (H : Hp) (t : T) (fl : Nat) (g' : List T) : VK := fun v H' =>
  ∃ r A, Keep ρ H H' ∧ (∀ a ∈ r, H a = none) ∧ Cells w K (ρ ++ r) H' g' ∧ RF w K (ρ ++ r) (fun a => B a ∨ a ∈ r) H' v t fl A ∧ ∀ a ∈ A, H a = none
def PostL (w : World) (K : PySem.W.Frag) (ρ : List Addr) (B : Addr → Prop) (H : Hp) (rs : List (T × Nat)) (g' : List T) : List V → Hp → Prop := fun vs H' =>
  ∃ r A, Keep ρ H H' ∧ (∀ a ∈ r, H a = none) ∧ Cells w K (ρ ++ r) H' g' ∧ RFs w K (ρ ++ r) H' (fun a => B a ∨ a ∈ r) vs rs A ∧ ∀ a ∈ A, H a = none

section
variable {w : World} {K : PySem.W.Frag} {ρ ρ' : List Addr} {B B' : Addr → Prop} {H H' : Hp} {v : V} {t : T} {fl : Nat} {A A' r : List Addr} {g g' : List T} {env : Env} {σ : L2.St}
/-- on from a later heap, what is owned already being bad -/
theorem Sit.on (S : Sit w K ρ B H g env σ) (k : Keep ρ H H') (hr : ∀ a ∈ r, H a = none) (c : Cells w K (ρ ++ r) H' g') (hA : ∀ a ∈ A, H a = none) (hA' : ∀ a ∈ A, H' a ≠ none) :
    Sit w K (ρ ++ r) (fun a => B a ∨ a ∈ r ∨ a ∈ A) H' g' env σ := by
  have cellT : ∀ a ∈ ρ ++ r, H' a ≠ none := fun a ha => by
    obtain ⟨n, hn⟩ := List.mem_iff_getElem?.mp ha
    have hlt : n < g'.length := by
      rw [← c.len]
      exact (List.getElem?_eq_some_iff.mp hn).1
    obtain ⟨vs, ts, _, h, _⟩ := c.at_ n a _ hn (List.getElem?_eq_getElem hlt)
    rw [h]; simp
  refine ⟨c, fun a ha => ?_, fun a ha => ?_, fun i t e => ?_⟩
  · rcases List.mem_append.mp ha with ha | ha
    · exact .inl (S.bad a ha)
    · exact .inr (.inl ha)
  · rcases ha with ha | ha | ha
    · by_cases hc : a ∈ ρ
      · exact cellT a (List.mem_append.mpr (.inl hc))
      · cases e : H a with
        | none => exact absurd e (S.badT a ha)
        | some o => rw [k a o e hc]; simp
    · exact cellT a (List.mem_append.mpr (.inr ha))
    · exact hA' a ha
  · obtain ⟨v, h1, h2⟩ := S.env i t e
    refine ⟨v, h1, h2.mv (.of k S.cells.apart S.bad (fun a ha => ?_) ⟨r, rfl⟩) (by simp)⟩
    rcases ha with ha | ha | ha
    · exact .inl ha
    · exact .inr (hr a ha)
    · exact .inr (hA a ha)
/-- one more result ahead of others -/
theorem postL_cons (S : Sit w K ρ B H g env σ) {H1 : Hp} {g1 : List T} {x : T × Nat} {rs : List (T × Nat)} {vs : List V}
    (k : Keep ρ H H1) (hr : ∀ a ∈ r, H a = none) (c : Cells w K (ρ ++ r) H1 g1) (h : RF w K (ρ ++ r) (fun a => B a ∨ a ∈ r) H1 v x.1 x.2 A) (hA : ∀ a ∈ A, H a = none)
    (q : PostL w K (ρ ++ r) (fun a => B a ∨ a ∈ r ∨ a ∈ A) H1 rs g' vs H') : PostL w K ρ B H (x :: rs) g' (v :: vs) H' := by
  obtain ⟨r2, A2, k2, hr2, c2, h2, hA2⟩ := q
  have S1 := S.on k hr c hA h.there
  have old : ∀ a, H1 a = none → H a = none := fun a e => by
    cases q : H a with
    | none => rfl
    | some o =>
      by_cases hc : a ∈ ρ
      · exact absurd e (S1.badT a (.inl (S.bad a hc)))
      · rw [k a o q hc] at e; cases e
  refine ⟨r ++ r2, A ++ A2, fun a o e n => ?_, fun a ha => ?_, ?_, ?_, fun a ha => ?_⟩
  · refine k2 a o (k a o e n) fun z => ?_
    rcases List.mem_append.mp z with z | z
    · exact n z
    · rw [hr a z] at e; cases e
  · rcases List.mem_append.mp ha with ha | ha
    · exact hr a ha
    · exact old a (hr2 a ha)
  · rw [← List.append_assoc]; exact c2
  · rw [← List.append_assoc]
    refine .cons (h.mv (.of k2 c.apart (fun a ha => ?_) (fun a ha => ?_) ⟨r2, rfl⟩)) (h2.weak fun a ha => ?_)
    · rcases List.mem_append.mp ha with ha | ha
      · exact .inl (S.bad a ha)
      · exact .inr ha
    · rcases ha with (ha | ha) | ha
      · exact .inl (.inl ha)
      · rcases List.mem_append.mp ha with ha | ha
        · exact .inl (.inr ha)
        · exact .inr (hr2 a ha)
      · exact .inr (hA2 a ha)
    · rcases ha with (ha | ha) | ha
      · exact .inl (.inl ha)
      · rcases List.mem_append.mp ha with ha | ha
        · exact .inl (.inr (.inl ha))
        · exact .inr ha
      · exact .inl (.inr (.inr ha))
  · rcases List.mem_append.mp ha with ha | ha
    · exact hA a ha
    · exact old a (hA2 a ha)
theorem postL_nil (S : Sit w K ρ B H g env σ) : PostL w K ρ B H [] g [] H :=
  ⟨[], [], Keep.refl _ _, by simp, by rw [List.append_nil]; exact S.cells, .nil, by simp⟩
end
end Fx
end

section
set_option Elab.async false
set_option linter.all false
set_option maxRecDepth 100000
/-! Fx4: the checker: a core term is the given text. -/
namespace Fx
open PySem PySem.Spec PyProof.Rows L2

mutual
def T.same : T → T → Bool
  | .non, .non => true
  | .bl a, .bl b => a == b
  | .int i, .int j => i == j
  | .str x, .str y => x == y
  | .tup xs, .tup ys => T.sames xs ys
  | .lst xs, .lst ys => T.sames xs ys
  | _, _ => false
def T.sames : List T → List T → Bool
  | [], [] => true
  | x :: xs, y :: ys => T.same x y && T.sames xs ys
  | _, _ => false
end
mutual
theorem T.same_eq : ∀ {a b : T}, T.same a b = true → a = b
  | .non, b, h => by cases b <;> first | rfl | cases h
  | .bl _, b, h => by cases b <;> first | (rw [eq_of_beq (show (_ == _) = true from h)]) | cases h
  | .int _, b, h => by cases b <;> first | (rw [eq_of_beq (show (_ == _) = true from h)]) | cases h
  | .str _, b, h => by cases b <;> first | (rw [eq_of_beq (show (_ == _) = true from h)]) | cases h
  | .tup _, b, h => by cases b <;> first | (rw [T.sames_eq (show T.sames _ _ = true from h)]) | cases h
  | .lst _, b, h => by cases b <;> first | (rw [T.sames_eq (show T.sames _ _ = true from h)]) | cases h
  | .dic _ _ _, b, h => by cases b <;> cases h
  | .fro _, b, h => by cases b <;> cases h
  | .cell _, b, h => by cases b <;> cases h
theorem T.sames_eq : ∀ {a b : List T}, T.sames a b = true → a = b
  | [], b, h => by cases b <;> first | rfl | cases h
  | x :: xs, b, h => by
    cases b with
    | nil => cases h
    | cons y ys =>
      have h' := Bool.and_eq_true_iff.mp (show (T.same x y && T.sames xs ys) = true from h)
      rw [T.same_eq h'.1, T.sames_eq h'.2]
end

structure Dec where
  names : List Str
  cons : List (Str × T)
  kws : List (Nat × List Str × List Nat)

def constIs (c : Const) (t : T) : Bool := match c, t with
  | .none, .non => true
  | .bool a, .bl b => a == b
  | .int i, .int j => decide (i = j)
  | .str x, .str s => decide (x.cps.toList = s) && s.all (fun c => decide (c < 0x110000))
  | _, _ => false
def isLocN (sc : Scope) (x : Str) : Bool := match sc.names.lookup x with
  | some .local => true
  | some .cell => true
  | some .free => true
  | _ => false
def isGlN (sc : Scope) (x : Str) : Bool := decide (sc.names.lookup x = some .globalImplicit)
def okName (x : Str) : Bool := !(x == ("__debug__" : Str)) && !(x == ("__classdict__" : Str))
def opIs (o : O2) (p : Operator) : Bool := match o, p with
  | .add, .Add => true
  | .sub, .Sub => true
  | .mul, .Mult => true
  | .fdiv, .FloorDiv => true
  | .mod, .Mod => true
  | .pow, .Pow => true
  | _, _ => false
/-- what an expression may be: no star, no set, no slice -/
def okE : Expr → Bool
  | .Constant .. => true
  | .Name .. => true
  | .Tuple .. => true
  | .List .. => true
  | .BinOp .. => true
  | .UnaryOp .. => true
  | .BoolOp .. => true
  | .Compare .. => true
  | .IfExp .. => true
  | .Subscript .. => true
  | .Call .. => true
  | .ListComp .. => true
  | .Dict .. => true
  | _ => false
/-- a receiver -/
def okO : Expr → Bool
  | .Name .. => true
  | .Subscript .. => true
  | _ => false
def tyName : Ty → String
  | .int => "int"
  | .bool => "bool"
  | .str => "str"
  | .tuple => "tuple"
  | .list => "list"
def biName : Bi → Option Str
  | .len => some "len"
  | .lis => some "list"
  | .sumI => some "sum"
  | .int1 => some "int"
  | .max2 => some "max"
  | .repr => some "repr"
  | .sorted => some "sorted"
  | _ => none
def isTyName (sc : Scope) (y : Ty) (e : Expr) : Bool := match e with
  | .Name x _ => decide (x = Str.ofString (tyName y)) && isGlN sc x
  | _ => false
def isTyNames (sc : Scope) : List Ty → List Expr → Bool
  | [], [] => true
  | y :: ys, e :: es => isTyName sc y e && isTyNames sc ys es
  | _, _ => false
def isLitInt (i : Int) : Expr → Bool
  | .Constant (.int j) _ _ => decide (i = j)
  | _ => false
/-- a target in a comprehension or a loop; fn: what may be stored to -/
def tgName (N : List Str) (sc : Scope) (i : Nat) (fn : Str → Bool) (e : Expr) : Bool := match e with
  | .Name x _ => decide (N[i]? = some x) && (match sc.names.lookup x with
    | some .local => true
    | some .cell => fn x
    | _ => false)
  | _ => false
def tgNames (N : List Str) (sc : Scope) (fn : Str → Bool) : List Nat → List Expr → Bool
  | [], [] => true
  | i :: is, e :: es => tgName N sc i fn e && tgNames N sc fn is es
  | _, _ => false
def chkTg (N : List Str) (sc : Scope) (fn : Str → Bool) (tg : Tg) (e : Expr) : Bool := match tg with
  | .one i => tgName N sc i fn e
  | .many is => (match e with
    | .Tuple es _ _ => tgNames N sc fn is es && decide is.Nodup
    | _ => false)
def tgIn : Tg → List Nat → Bool
  | .one i, own => decide (i ∈ own)
  | .many is, own => is.all fun i => decide (i ∈ own)
def ownOf (N : List Str) (own : List Nat) : List (Str × Nat) := own.map fun i => (N.getD i Str.empty, i)
def isNameE (e : Expr) (n : Str) (sc : Scope) : Bool := match e with
  | .Name x _ => decide (x = n) && isGlN sc x
  | _ => false

def isTup : Expr → Bool
  | .Tuple .. => true
  | _ => false
def itTg : It → Expr → Bool
  | .enum _, e => isTup e
  | .zip _ _, e => isTup e
  | _, _ => true
mutual
def chkE (D : Dec) (N : List Str) (sc : Scope) : E → Expr → Bool
  | .lit t, e => (match e with
    | .Constant c _ _ => constIs c t
    | .Name x _ => isGlN sc x && okName x && D.cons.any fun p => decide (p.1 = x) && T.same p.2 t
    | _ => false)
  | .con _, _ => false
  | .var i, e => (match e with
    | .Name x _ => decide (N[i]? = some x) && isLocN sc x && okName x
    | _ => false)
  | .tup es, e => (match e with
    | .Tuple es' _ _ => chkEs D N sc es es' && decide (es'.length ≤ 1000)
    | _ => false)
  | .lst es, e => (match e with
    | .List es' _ => chkEs D N sc es es' && decide (es'.length ≤ 1000)
    | _ => false)
  | .bin o a b, e => (match e with
    | .BinOp a' p b' _ => opIs o p && chkE D N sc a a' && chkE D N sc b b'
    | _ => false)
  | .neg a, e => (match e with
    | .UnaryOp .USub a' _ => chkE D N sc a a'
    | _ => false)
  | .not a, e => (match e with
    | .UnaryOp .Not a' _ => chkE D N sc a a'
    | _ => false)
  | .and a b, e => (match e with
    | .BoolOp .And (a' :: b' :: r) pos => chkE D N sc a a' && (match r with
      | [] => chkE D N sc b b'
      | _ :: _ => chkE D N sc b (.BoolOp .And (b' :: r) pos))
    | _ => false)
  | .or a b, e => (match e with
    | .BoolOp .Or (a' :: b' :: r) pos => chkE D N sc a a' && (match r with
      | [] => chkE D N sc b b'
      | _ :: _ => chkE D N sc b (.BoolOp .Or (b' :: r) pos))
    | _ => false)
  | .cmp o a b, e => (match e with
    | .Compare a' [o'] [b'] _ => decide (o = o') && chkE D N sc a a' && chkE D N sc b b'
    | _ => false)
  | .chain o p a b c, e => (match e with
    | .Compare a' [o', p'] [b', c'] _ => decide (o = o') && decide (p = p') && chkE D N sc a a' && chkE D N sc b b' && chkE D N sc c c'
    | _ => false)
  | .ite c a b, e => (match e with
    | .IfExp c' a' b' _ => chkE D N sc c c' && chkE D N sc a a' && chkE D N sc b b'
    | _ => false)
  | .idx a i, e => (match e with
    | .Subscript a' i' _ => chkE D N sc a a' && chkE D N sc i i'
    | _ => false)
  | .slc a lo hi, e => (match e with
    | .Subscript a' (.Slice lo' hi' none _) _ => chkE D N sc a a' && (match lo' with
      | none => isNonE lo
      | some l => !isNonE lo && chkE D N sc lo l) && (match hi' with
      | none => isNonE hi
      | some h => !isNonE hi && chkE D N sc hi h)
    | _ => false)
  | .rev a, e => (match e with
    | .Subscript a' (.Slice none none (some (.UnaryOp .USub one _)) _) _ => chkE D N sc a a' && isLitInt 1 one
    | _ => false)
  | .call f es, e => (match e with
    | .Call (.Name x _) es' [] _ => decide (D.names[f]? = some x) && isGlN sc x && okName x && chkEs D N sc es es'
    | _ => false)
  | .callK f pm j es, e => (match e with
    | .Call (.Name x _) [] kws _ => decide (D.names[f]? = some x) && isGlN sc x && okName x && decide (D.kws[j]? = some (f, kws.filterMap fun k => k.arg, pm)) && kws.all (fun k => k.arg.isSome) && chkEs D N sc es (kws.map fun k => k.value) && (pm.all fun i => decide (i < kws.length))
    | _ => false)
  | .bi b es, e => (match e with
    | .Call (.Name x _) es' [] _ => isGlN sc x && (match biName b with
      | some n => decide (x = n) && chkEs D N sc es es' && decide (0 < es'.length)
      | none => (match b, es' with
        | .sumL, [a', .List [] _] => decide (x = "sum") && chkEs D N sc es es'
        | .sortSet, [.Call s es'' [] _] => decide (x = "sorted") && isNameE s "set" sc && chkEs D N sc es es'' && decide (es''.length = 1)
        | .lenSet, [.Call s es'' [] _] => decide (x = "len") && isNameE s "set" sc && chkEs D N sc es es'' && decide (es''.length = 1)
        | _, _ => false))
    | .Call (.Attribute o x apos) [] [] pos => (match b, es with
      | .bits, .cons a .nil => decide (x = "bit_length") && chkE D N sc a o && okO o && apos.endLine == pos.line
      | _, _ => false)
    | _ => false)
  | .lrng1 a, e => (match e with
    | .Call l [.Call r [a'] [] _] [] _ => isNameE l "list" sc && isNameE r "range" sc && chkE D N sc a a'
    | _ => false)
  | .isi a tys, e => (match e with
    | .Call (.Name x _) [a', t'] [] _ => decide (x = "isinstance") && isGlN sc x && chkE D N sc a a' && (match t', tys with
      | .Name .., [y] => isTyName sc y t'
      | .Tuple ts _ _, ys => isTyNames sc ys ts && decide (ys.length ≤ 100)
      | _, _ => false)
    | _ => false)
  | .comp elt own tg it cond, e => (match e with
    | .ListComp elt' [⟨tg', it', ifs', 0⟩] scope _ => chkIt D N sc it it' && chkTg N (relS scope sc) (fun x => scope.names.lookup x == some .cell) tg tg' && itTg it tg' && tgIn tg own && blkC N sc scope (ownOf N own) && chkE D N (relS scope sc) elt elt' &&
      (match ifs' with
        | [] => (match cond with
          | .lit (.bl true) => true
          | _ => false)
        | [c'] => chkE D N (relS scope sc) cond c'
        | _ => false)
    | _ => false)
  | .meth m a es, e => (match e with
    | .Call (.Attribute o x apos) es' [] pos => (match m with
      | .index => decide (x = "index") && decide (es'.length = 1)) && chkE D N sc a o && okO o && chkEs D N sc es es' && apos.endLine == pos.line
    | _ => false)
  | .dic0 _, e => (match e with
    | .Dict [] [] _ => true
    | _ => false)
def chkEs (D : Dec) (N : List Str) (sc : Scope) : Es → List Expr → Bool
  | .nil, es => (match es with
    | [] => true
    | _ => false)
  | .cons e es, es' => (match es' with
    | e' :: r => chkE D N sc e e' && chkEs D N sc es r
    | [] => false)
def chkIt (D : Dec) (N : List Str) (sc : Scope) : It → Expr → Bool
  | .seq a, e => chkE D N sc a e
  | .rng1 a, e => (match e with
    | .Call r [a'] [] _ => isNameE r "range" sc && chkE D N sc a a'
    | _ => false)
  | .rng2 a b, e => (match e with
    | .Call r [a', b'] [] _ => isNameE r "range" sc && chkE D N sc a a' && chkE D N sc b b'
    | _ => false)
  | .enum a, e => (match e with
    | .Call r [a'] [] _ => isNameE r "enumerate" sc && chkE D N sc a a'
    | _ => false)
  | .zip a b, e => (match e with
    | .Call r [a', b'] [] _ => isNameE r "zip" sc && chkE D N sc a a' && chkE D N sc b b'
    | _ => false)
end
end Fx
end

section
set_option Elab.async false
set_option linter.all false
set_option maxRecDepth 100000
/-! Fx5: soundness of expressions: displays, operators, comparisons, subscripts. -/
namespace Fx
open PySem PySem.Spec PyProof.Rows L2

def bltNames : List Str := ["len", "list", "sum", "int", "max", "repr", "sorted", "set", "range", "enumerate", "zip", "isinstance", "str", "bool", "tuple"]
/-- the same module, the same stack -/
structure Like (X X' : Cx) : Prop where
  prog : X'.prog = X.prog
  w : X'.w = X.w
  K : X'.K = X.K
  mg : X'.mg = X.mg
  base : X'.base = X.base
  A : X'.A = X.A
theorem Like.refl (X : Cx) : Like X X := ⟨rfl, rfl, rfl, rfl, rfl, rfl⟩
/-- a function of the module, called; kw: how keywords may be given -/
def FnAt (X : Cx) (x : Str) (kw : List (List Str × List Nat)) (ev : List T → List T → Out (T × Nat)) : Prop :=
  ∃ (fa : Addr) (fd : FuncData) (ps : List Str), X.mg x = some (.ref fa) ∧ PySem.W.keepIn X.K (.ref fa) = true ∧
    (∀ (s : Shared) (us : List Value), us.length = ps.length → BindsTo s fd ⟨us, []⟩ (ps.zip us)) ∧
    (∀ p ∈ kw, ∀ (s : Shared) (ws : List Value), ws.length = p.1.length → BindsTo s fd ⟨[], p.1.zip ws⟩ (ps.zip (p.2.map fun i => ws.getD i .none)) ∧ p.2.length = ps.length) ∧ ∀ X' : Cx, Like X X' →
    ∀ (pins : List (Addr × Obj)) (s : Shared) (σ : L2.St) (H : Hp) (pos : List Value) (kws : List (Str × Value)) (us : List Value) (vs : List V) (Q : VK) (ts g g' : List T) (t : T) (fl : Nat) (ρ : List Addr) (B : Addr → Prop),
      L2.Inv X' pins σ H s → (us.length = ps.length → BindsTo s fd ⟨pos, kws⟩ (ps.zip us)) → Vals vs us → Rs X'.w X'.K ρ B H false vs ts [] → Cells X'.w X'.K ρ H g → (∀ a ∈ ρ, B a) → (∀ a, B a → H a ≠ none) → ev ts g = .ok (t, fl) g' →
      (∀ v H', Post X'.w X'.K ρ B H t fl g' v H' → Q v H') → wpAny (model X'.prog X'.w) X'.A (call (.ref fa) pos kws) (EP X' pins σ Q) X'.xe s
def Dec.kwOf (D : Dec) (f : Nat) : List (List Str × List Nat) := D.kws.filterMap fun p => if p.1 = f then some p.2 else none
/-- where a body runs -/
structure Gd (X : Cx) (D : Dec) (F : Call) : Prop where
  calm : X.calm = true
  nd : X.N.Nodup
  gd : X.A.guards = some []
  hn : X.A.handled = none
  un : X.A.units + 100 < cLine
  blt : ∀ x ∈ bltNames, X.mg x = none
  con : ∀ p ∈ D.cons, ∃ v u, X.mg p.1 = some u ∧ L2.RelV v u ∧ ∀ ρ B H, R X.w X.K ρ B H true v p.2 []
  fn : ∀ f x, D.names[f]? = some x → FnAt X x (D.kwOf f) (F f)

def SE (D : Dec) (F : Call) (c : E) : Prop := ∀ (X : Cx), Gd X D F → ∀ (e : Expr) (σ : L2.St) (ρ : List Addr) (B : Addr → Prop) (H : Hp) (g g' : List T) (env : Env) (t : T) (fl : Nat),
  Sit X.w X.K ρ B H g env σ → chkE D X.N X.env.scope c e = true → evalE F env c g = .ok (t, fl) g' → wE X e σ H (Post X.w X.K ρ B H t fl g')
def SEs (D : Dec) (F : Call) (c : Es) : Prop := ∀ (X : Cx), Gd X D F → ∀ (es : List Expr) (σ : L2.St) (ρ : List Addr) (B : Addr → Prop) (H : Hp) (g g' : List T) (env : Env) (rs : List (T × Nat)),
  Sit X.w X.K ρ B H g env σ → chkEs D X.N X.env.scope c es = true → evalEs F env c g = .ok rs g' → wA X es σ H (PostL X.w X.K ρ B H rs g')
def STt (D : Dec) (F : Call) (c : E) : Prop := ∀ (X : Cx), Gd X D F → ∀ (e : Expr) (σ : L2.St) (ρ : List Addr) (B : Addr → Prop) (H : Hp) (g g' : List T) (env : Env) (t : T) (fl : Nat) (b : Bool),
  Sit X.w X.K ρ B H g env σ → chkE D X.N X.env.scope c e = true → evalE F env c g = .ok (t, fl) g' → t.truth = some b →
  wT X e σ H fun b' H' => b' = b ∧ ∃ r, Keep ρ H H' ∧ (∀ a ∈ r, H a = none) ∧ Cells X.w X.K (ρ ++ r) H' g'

/-! ### the text's forms -/
theorem okE_chk {D : Dec} {N : List Str} {sc : Scope} {c : E} {e : Expr} (h : chkE D N sc c e = true) : okE e = true := by
  cases e <;> first | rfl | (cases c <;> first | (cases h) | (unfold chkE at h; first | cases h | (split at h <;> first | cases h | rfl)))
theorem starEach_ok {e : Expr} {es : List Expr} {env : PySem.Env} (h : okE e = true) : starEach (e :: es) env = (false, eval e env) :: starEach es env := by
  cases e <;> first | rfl | cases h
theorem chkEs_ok {D : Dec} {N : List Str} {sc : Scope} : ∀ {c : Es} {es : List Expr}, chkEs D N sc c es = true → ∀ e ∈ es, okE e = true
  | .nil, es, h, e, he => by
    unfold chkEs at h
    split at h
    · cases he
    · cases h
  | .cons a c, es, h, e, he => by
    unfold chkEs at h
    split at h
    · rename_i e' r
      obtain ⟨h1, h2⟩ := Bool.and_eq_true_iff.mp h
      rcases List.mem_cons.mp he with rfl | he
      · exact okE_chk h1
      · exact chkEs_ok h2 e he
    · cases h
theorem noStar {env : PySem.Env} {pos : Pos} : ∀ {es : List Expr}, (∀ e ∈ es, okE e = true) → (backTo pos (starEach es env)).any (·.1) = false
  | [], _ => rfl
  | e :: es, h => by
    rw [starEach_ok (h e (by simp))]
    have ih := noStar (env := env) (pos := pos) (es := es) fun x hx => h x (by simp [hx])
    unfold backTo at ih ⊢
    rw [List.map_cons, List.any_cons, ih]
    rfl
theorem marks_ok {o : CmpOp} {e : Expr} (h : okE e = true) : behindInMarks o e = false := by
  cases e <;> first | rfl | cases h
theorem plainIx_ok {e : Expr} (h : okE e = true) : PlainIx e := fun o i => by
  cases e <;> first | rfl | cases h
theorem fold_ok {e : Expr} {env : PySem.Env} (h : okE e = true) (x : Value) : foldedSetIterable e env x = pure x := by
  cases e <;> first | rfl | cases h
theorem base_ok {e : Expr} {n : Str} {env : PySem.Env} (h : okO e = true) : attributeBase e n env (eval e env) = eval e env := by
  cases e <;> first | rfl | cases h

/-! ### cells and new objects -/
section
variable {w : World} {K : PySem.W.Frag} {ρ ρ' : List Addr} {B B' : Addr → Prop} {H H' : Hp} {v : V} {t : T} {fl : Nat} {A A' r : List Addr} {g g' : List T} {env : Env} {σ : L2.St} {p : Addr} {o : HO}
theorem Cells.live (c : Cells w K ρ H g) {a : Addr} (ha : a ∈ ρ) : ∃ vs, H a = some (.lst vs) := by
  obtain ⟨n, hn⟩ := List.mem_iff_getElem?.mp ha
  have hlt : n < g.length := by
    rw [← c.len]
    exact (List.getElem?_eq_some_iff.mp hn).1
  obtain ⟨vs, ts, _, h, _⟩ := c.at_ n a _ hn (List.getElem?_eq_getElem hlt)
  exact ⟨vs, h⟩
theorem Mv.fresh (n : H p = none) : Mv ρ ρ B B H (upd H p o) :=
  ⟨fun a u e _ => by rw [upd_ne (ne_of_none e n)]; exact e, fun a u e => by rw [upd_ne (ne_of_none e n)]; exact e, fun a u z e => by rw [upd_ne (ne_of_none e n)]; exact e, fun a z => .inl z, ⟨[], by simp⟩⟩
theorem Mv.freshB (n : H p = none) : Mv ρ ρ B (fun a => B a ∨ a = p) H (upd H p o) :=
  ⟨fun a u e _ => by rw [upd_ne (ne_of_none e n)]; exact e, fun a u e => by rw [upd_ne (ne_of_none e n)]; exact e, fun a u z e => by rw [upd_ne (ne_of_none e n)]; exact e, fun a z => by
    rcases z with z | rfl
    · exact .inl z
    · exact .inr n, ⟨[], by simp⟩⟩
theorem Cells.mv (c : Cells w K ρ H g) (k : ∀ a ∈ ρ, ∀ o, H a = some o → H' a = some o) (kt : ∀ a xs, H a = some (.tup xs) → H' a = some (.tup xs)) (kf : ∀ a o u, H a = some (.frz o u) → H' a = some (.frz o u)) : Cells w K ρ H' g := by
  refine ⟨c.len, c.nd, fun n a t h1 h2 => ?_⟩
  obtain ⟨vs, ts, e, h, q, f⟩ := c.at_ n a t h1 h2
  exact ⟨vs, ts, e, k a (List.mem_of_getElem? h1) _ h, q.mv ⟨fun a o e n => absurd trivial n, kt, kf, fun a z => .inl trivial, ⟨[], rfl⟩⟩ (by simp), f⟩
theorem Cells.fresh (c : Cells w K ρ H g) (n : H p = none) : Cells w K ρ (upd H p o) g :=
  c.mv (fun a ha u e => by rw [upd_ne (ne_of_none e n)]; exact e) (fun a u e => by rw [upd_ne (ne_of_none e n)]; exact e) fun a u z e => by rw [upd_ne (ne_of_none e n)]; exact e

/-- the heap of an end, the results gone -/
def Base (w : World) (K : PySem.W.Frag) (ρ : List Addr) (H : Hp) (g' : List T) (H' : Hp) : Prop :=
  ∃ r, Keep ρ H H' ∧ (∀ a ∈ r, H a = none) ∧ Cells w K (ρ ++ r) H' g'
theorem PostL.base {rs : List (T × Nat)} {vs : List V} (h : PostL w K ρ B H rs g' vs H') : Base w K ρ H g' H' := by
  obtain ⟨r, A, k, hr, c, _, _⟩ := h
  exact ⟨r, k, hr, c⟩
theorem Post.base (h : Post w K ρ B H t fl g' v H') : Base w K ρ H g' H' := by
  obtain ⟨r, A, k, hr, c, _, _⟩ := h
  exact ⟨r, k, hr, c⟩
theorem Post.toL (h : Post w K ρ B H t fl g' v H') : PostL w K ρ B H [(t, fl)] g' [v] H' := by
  obtain ⟨r, A, k, hr, c, q, hA⟩ := h
  refine ⟨r, A ++ [], k, hr, c, .cons (q.weakB fun a z => ?_) .nil, by simpa using hA⟩
  rcases z with z | z
  · exact z
  · simp at z
/-- an end with a plain value -/
theorem Base.post (b : Base w K ρ H g' H') (h : ∀ ρ B, R w K ρ B H' true v t []) : Post w K ρ B H t 2 g' v H' := by
  obtain ⟨r, k, hr, c⟩ := b
  exact ⟨r, [], k, hr, c, (h _ _).rf (.inl ⟨rfl, rfl⟩), by simp⟩
theorem Base.bl (b : Base w K ρ H g' H') (c : Bool) : Post w K ρ B H (.bl c) 2 g' (.bl c) H' := b.post fun _ _ => .bl c
theorem Base.int (b : Base w K ρ H g' H') (i : Int) : Post w K ρ B H (.int i) 2 g' (.int i) H' := b.post fun _ _ => .int i

theorem PostL.free (S : Sit w K ρ B H g env σ) {rs : List (T × Nat)} {vs : List V} (q : PostL w K ρ B H rs g' vs H') (np : H' p = none) : H p = none := by
  obtain ⟨r, A, kp, hr, c, h, hA⟩ := q
  cases e : H p with
  | none => rfl
  | some o =>
    by_cases hc : p ∈ ρ
    · obtain ⟨vs, z⟩ := c.live (List.mem_append.mpr (.inl hc))
      rw [np] at z; cases z
    · rw [kp p o e hc] at np; cases np
/-- a new list -/
theorem post_lst (S : Sit w K ρ B H g env σ) {rs : List (T × Nat)} {vs ws : List V} {ts : List T} (q : PostL w K ρ B H rs g' vs H') (np : H' p = none)
    (k : ∀ ρ' B' A', RFs w K ρ' H' B' vs rs A' → (fl = 2 ∧ ∃ A'', A''.Sublist A' ∧ Rs w K ρ' B' H' true ws ts A'') ∨ (fl = 1 ∧ Rs w K ρ' B' H' false ws ts [])) :
    Post w K ρ B H (.lst ts) fl g' (.ref p) (upd H' p (.lst ws)) := by
  have hp := q.free S np
  obtain ⟨r, A, kp, hr, c, h, hA⟩ := q
  have nr : p ∉ r := fun z => by
    obtain ⟨vs, y⟩ := c.live (List.mem_append.mpr (.inr z))
    rw [np] at y; cases y
  have nB : ¬ (B p ∨ p ∈ r) := fun z => by
    rcases z with z | z
    · exact S.badT p z hp
    · exact nr z
  have kp' : Keep ρ H (upd H' p (.lst ws)) := kp.trans (Keep.upd np)
  rcases k _ _ _ h with ⟨rfl, A2, sub, q2⟩ | ⟨rfl, q2⟩
  · have nA : p ∉ A2 := fun z => h.there p (sub.subset z) np
    have nb2 : ∀ a ∈ A2, ¬ (B a ∨ a ∈ r) := fun a ha => h.nb a (sub.subset ha)
    refine ⟨r, p :: A2, kp', hr, c.fresh np, .inr (.inr ⟨rfl, .lst2 upd_same (q2.mv (Mv.fresh np) nb2), List.nodup_cons.mpr ⟨nA, h.nodup.sublist sub⟩, fun a ha => ?_⟩), fun a ha => ?_⟩
    · rcases List.mem_cons.mp ha with rfl | ha
      · exact nB
      · exact nb2 a ha
    · rcases List.mem_cons.mp ha with rfl | ha
      · exact hp
      · exact hA a (sub.subset ha)
  · refine ⟨r, [p], kp', hr, c.fresh np, .inr (.inl ⟨rfl, p, rfl, rfl, nB, .lst upd_same (q2.mv (Mv.freshB np) (by simp))⟩), fun a ha => ?_⟩
    rw [List.mem_singleton.mp ha]
    exact hp
/-- a new tuple -/
theorem post_tup (S : Sit w K ρ B H g env σ) {rs : List (T × Nat)} {vs ws : List V} {ts : List T} (q : PostL w K ρ B H rs g' vs H') (np : H' p = none)
    (k : ∀ ρ' B' A', RFs w K ρ' H' B' vs rs A' → (fl = 2 ∧ ∃ A'', A''.Sublist A' ∧ Rs w K ρ' B' H' true ws ts A'') ∨ (fl = 0 ∧ Rs w K ρ' B' H' false ws ts [])) :
    Post w K ρ B H (.tup ts) fl g' (.ref p) (upd H' p (.tup ws)) := by
  have hp := q.free S np
  obtain ⟨r, A, kp, hr, c, h, hA⟩ := q
  have kp' : Keep ρ H (upd H' p (.tup ws)) := kp.trans (Keep.upd np)
  rcases k _ _ _ h with ⟨rfl, A2, sub, q2⟩ | ⟨rfl, q2⟩
  · have nb2 : ∀ a ∈ A2, ¬ (B a ∨ a ∈ r) := fun a ha => h.nb a (sub.subset ha)
    exact ⟨r, A2, kp', hr, c.fresh np, .inr (.inr ⟨rfl, .tup (SqT.of upd_same) (q2.mv (Mv.fresh np) nb2), h.nodup.sublist sub, nb2⟩), fun a ha => hA a (sub.subset ha)⟩
  · exact ⟨r, [], kp', hr, c.fresh np, .inl ⟨rfl, rfl, .tup (SqT.of upd_same) (q2.mv (Mv.fresh np) (by simp))⟩, by simp⟩
/-- a part of a result, as it stands -/
theorem post_part (S : Sit w K ρ B H g env σ) {rs : List (T × Nat)} {vs : List V} (q : PostL w K ρ B H rs g' vs H')
    (k : ∀ ρ' B' A', RFs w K ρ' H' B' vs rs A' → (fl = 2 ∧ ∃ A'', A''.Sublist A' ∧ R w K ρ' B' H' true v t A'') ∨ (fl = 0 ∧ R w K ρ' B' H' false v t [])) :
    Post w K ρ B H t fl g' v H' := by
  obtain ⟨r, A, kp, hr, c, h, hA⟩ := q
  rcases k _ _ _ h with ⟨rfl, A2, sub, q2⟩ | ⟨rfl, q2⟩
  · exact ⟨r, A2, kp, hr, c, .inr (.inr ⟨rfl, q2, h.nodup.sublist sub, fun a ha => h.nb a (sub.subset ha)⟩), fun a ha => hA a (sub.subset ha)⟩
  · exact ⟨r, [], kp, hr, c, .inl ⟨rfl, rfl, q2⟩, by simp⟩
end

/-! ### from parts to lists of parts -/
section
variable {D : Dec} {F : Call} {X : Cx} {σ : L2.St} {ρ : List Addr} {B : Addr → Prop} {H : Hp} {g g' g1 g2 : List T} {env : Env} {a b : E} {a' b' : Expr} {x y : T × Nat}
theorem one {Q : VK} (ha : SE D F a) (G : Gd X D F) (S : Sit X.w X.K ρ B H g env σ) (ca : chkE D X.N X.env.scope a a' = true) (ea : evalE F env a g = .ok x g1)
    (k : ∀ v H', PostL X.w X.K ρ B H [x] g1 [v] H' → Fit X.K H' → Q v H') : wE X a' σ H Q :=
  ((ha X G a' σ ρ B H g g1 env x.1 x.2 S ca ea).mono fun v H' q z => k v H' q.toL z).fits
theorem two {Q : V → V → Hp → Prop} (ha : SE D F a) (hb : SE D F b) (G : Gd X D F) (S : Sit X.w X.K ρ B H g env σ) (ca : chkE D X.N X.env.scope a a' = true) (cb : chkE D X.N X.env.scope b b' = true)
    (ea : evalE F env a g = .ok x g1) (eb : evalE F env b g1 = .ok y g2) (k : ∀ v u H', PostL X.w X.K ρ B H [x, y] g2 [v, u] H' → Fit X.K H' → Q v u H') :
    wE X a' σ H fun v H1 => wE X b' σ H1 fun u H2 => Q v u H2 := by
  refine (ha X G a' σ ρ B H g g1 env x.1 x.2 S ca ea).mono fun v H1 q => ?_
  obtain ⟨r, A, kp, hr, c, h, hA⟩ := q
  have S1 := S.on kp hr c hA h.there
  refine one hb G S1 cb eb fun u H2 q2 z => k v u H2 (postL_cons S kp hr c h hA q2) z
theorem three {c : E} {c' : Expr} {z : T × Nat} {g3 : List T} {Q : V → V → V → Hp → Prop} (ha : SE D F a) (hb : SE D F b) (hc : SE D F c) (G : Gd X D F) (S : Sit X.w X.K ρ B H g env σ)
    (ca : chkE D X.N X.env.scope a a' = true) (cb : chkE D X.N X.env.scope b b' = true) (cc : chkE D X.N X.env.scope c c' = true)
    (ea : evalE F env a g = .ok x g1) (eb : evalE F env b g1 = .ok y g2) (ec : evalE F env c g2 = .ok z g3) (k : ∀ v u t H', PostL X.w X.K ρ B H [x, y, z] g3 [v, u, t] H' → Fit X.K H' → Q v u t H') :
    wE X a' σ H fun v H1 => wE X b' σ H1 fun u H2 => wE X c' σ H2 fun t H3 => Q v u t H3 := by
  refine (ha X G a' σ ρ B H g g1 env x.1 x.2 S ca ea).mono fun v H1 q => ?_
  obtain ⟨r, A, kp, hr, c1, h, hA⟩ := q
  have S1 := S.on kp hr c1 hA h.there
  exact two hb hc G S1 cb cc eb ec fun u t H3 q2 f => k v u t H3 (postL_cons S kp hr c1 h hA q2) f
end
end Fx
end

section
set_option Elab.async false
set_option linter.all false
set_option maxRecDepth 100000
/-! Fx6: soundness of expressions, a lemma a construct. -/
namespace Fx
open PySem PySem.Spec PyProof.Rows L2
variable {D : Dec} {F : Call}

theorem band {a b : Bool} (h : (a && b) = true) : a = true ∧ b = true := Bool.and_eq_true_iff.mp h
theorem gl_of {X : Cx} {x : Str} (h : isGlN X.env.scope x = true) : Gl X x := by
  have e : X.env.scope.names.lookup x = some .globalImplicit := of_decide_eq_true h
  exact e
theorem vis_of {X : Cx} {x : Str} (h : isLocN X.env.scope x = true) : Vis X.env.scope x := by
  unfold isLocN at h
  split at h
  · exact .inl (by assumption)
  · exact .inr (.inl (by assumption))
  · exact .inr (.inr (by assumption))
  · cases h
theorem name_of {x : Str} (h : okName x = true) : (x == ("__debug__" : Str)) = false ∧ (x == ("__classdict__" : Str)) = false := by
  obtain ⟨h1, h2⟩ := band h
  exact ⟨by simpa using h1, by simpa using h2⟩

/-! ### argument lists -/
theorem ses_nil : SEs D F .nil := by
  intro X G es σ ρ B H g g' env rs S hc he
  unfold chkEs at hc
  split at hc
  · unfold evalEs at he
    cases he
    exact wA.of pa_nil (postL_nil S)
  · cases hc
theorem ses_cons {e : E} {es : Es} (h1 : SE D F e) (h2 : SEs D F es) : SEs D F (.cons e es) := by
  intro X G es' σ ρ B H g g' env rs S hc he
  unfold chkEs at hc
  split at hc
  · rename_i e' r'
    obtain ⟨c1, c2⟩ := band hc
    unfold evalEs at he
    obtain ⟨x, g1, e1, he⟩ := Out.bind_eq he
    obtain ⟨xs, g2, e2, he⟩ := Out.bind_eq he
    cases he
    refine wA.of (pa_cons (wE.pe X e') (wA.pa X r') (starEach_ok (okE_chk c1))) ?_
    refine (h1 X G e' σ ρ B H g g1 env x.1 x.2 S c1 e1).mono fun v H1 q => ?_
    obtain ⟨r, A, kp, hr, c, h, hA⟩ := q
    have S1 := S.on kp hr c hA h.there
    exact (h2 X G r' σ _ _ H1 g1 g' env xs S1 c2 e2).mono fun vs H2 q2 => postL_cons S kp hr c h hA q2
  · cases hc

/-! ### constants, names, displays -/
theorem constIs_rel {w : World} {K : PySem.W.Frag} {c : Const} {t : T} (h : constIs c t = true) : ∃ v, (∀ ρ B H, R w K ρ B H true v t []) ∧ ∀ {X : Cx} {k : Nat} {pos : Pos}, PE X (.Constant c k pos) (tC v) := by
  unfold constIs at h
  split at h
  · exact ⟨_, fun _ _ _ => .non, pe_non⟩
  · rw [eq_of_beq h]
    exact ⟨_, fun _ _ _ => .bl _, pe_bl⟩
  · rw [of_decide_eq_true h]
    exact ⟨_, fun _ _ _ => .int _, pe_int⟩
  · rename_i x s
    obtain ⟨h1, h2⟩ := band h
    have e : x.cps.toList = s := of_decide_eq_true h1
    subst e
    refine ⟨.str x, fun _ _ _ => ?_, pe_str⟩
    have z := R.str (w := w) (K := K) (ρ := by assumption) (B := by assumption) (H := by assumption) (o := true) x.cps.toList fun c hc => by
      have := List.all_eq_true.mp h2 c hc
      exact of_decide_eq_true this
    simpa using z
  · cases h
theorem se_lit {t : T} : SE D F (.lit t) := by
  intro X G e σ ρ B H g g' env t' fl S hc he
  unfold evalE at he
  cases he
  have b : Base X.w X.K ρ H g H := ⟨[], Keep.refl _ _, by simp, by rw [List.append_nil]; exact S.cells⟩
  unfold chkE at hc
  split at hc
  · obtain ⟨v, h1, h2⟩ := constIs_rel (w := X.w) (K := X.K) hc
    exact wE.of h2 (b.post fun ρ B => h1 ρ B _)
  · rename_i x pos
    obtain ⟨h12, h3⟩ := band hc
    obtain ⟨h1, h2⟩ := band h12
    obtain ⟨p, hp, q⟩ := List.any_eq_true.mp h3
    obtain ⟨q1, q2⟩ := band q
    have e1 : p.1 = x := of_decide_eq_true q1
    have e2 := T.same_eq q2
    obtain ⟨v, u, m1, m2, m3⟩ := G.con p hp
    rw [e1] at m1
    rw [e2] at m3
    exact wE.of (pe_glob (gl_of h1) m1 m2 (name_of h2).1) (b.post fun ρ B => m3 ρ B _)
  · cases hc
theorem se_var {i : Nat} : SE D F (.var i) := by
  intro X G e σ ρ B H g g' env t' fl S hc he
  unfold evalE at he
  obtain ⟨he1, rfl⟩ := Out.of_eq he
  obtain ⟨t, ht, he2⟩ := Option.map_eq_some_iff.mp he1
  cases he2
  unfold chkE at hc
  split at hc
  · rename_i x pos
    obtain ⟨h12, h3⟩ := band hc
    obtain ⟨h1, h2⟩ := band h12
    obtain ⟨v, e1, e2⟩ := S.env i _ ht
    refine wE.of (pe_var (of_decide_eq_true h1) (vis_of h2) (name_of h3).1 (name_of h3).2) ⟨v, e1, ?_⟩
    exact ⟨[], [], Keep.refl _ _, by simp, by rw [List.append_nil]; exact S.cells, .inl ⟨rfl, rfl, by rw [List.append_nil]; exact e2.weak fun a z => by simpa using z⟩, by simp⟩
  · cases hc
theorem small_len {n : Nat} (h : n ≤ 1000) : n ≤ sizeLine := Nat.le_of_lt (small1000 h)
theorem evalEs_len {env : Env} : ∀ {es : Es} {g g' : List T} {rs : List (T × Nat)} {es' : List Expr} {N : List Str} {sc : Scope}, evalEs F env es g = .ok rs g' → chkEs D N sc es es' = true → rs.length = es'.length
  | .nil, g, g', rs, es', N, sc, h, hc => by
    unfold evalEs at h
    cases h
    unfold chkEs at hc
    split at hc
    · rfl
    · cases hc
  | .cons e es, g, g', rs, es', N, sc, h, hc => by
    unfold evalEs at h
    obtain ⟨x, g1, e1, h⟩ := Out.bind_eq h
    obtain ⟨xs, g2, e2, h⟩ := Out.bind_eq h
    cases h
    unfold chkEs at hc
    split at hc
    · obtain ⟨c1, c2⟩ := band hc
      rw [List.length_cons, List.length_cons, evalEs_len e2 c2]
    · cases hc
theorem se_tup {es : Es} (h : SEs D F es) : SE D F (.tup es) := by
  intro X G e σ ρ B H g g' env t' fl S hc he
  unfold evalE at he
  obtain ⟨rs, g1, e1, he⟩ := Out.bind_eq he
  cases he
  unfold chkE at hc
  split at hc
  · rename_i es' k pos
    obtain ⟨c1, c2⟩ := band hc
    refine wE.of (pe_tup (wA.pa X es')) ((h X G es' σ ρ B H g _ env rs S c1 e1).mono fun vs H1 q => ⟨?_, fun p np => post_tup S q np fun ρ' B' A' z => ?_⟩)
    · obtain ⟨r, A, kp, hr, c, z, hA⟩ := q
      rw [z.length, evalEs_len e1 c1]
      exact small_len (of_decide_eq_true c2)
    · by_cases f : allFl rs = true
      · exact .inl ⟨by rw [if_pos f], A', .refl _, z.own f⟩
      · exact .inr ⟨by rw [if_neg f], z.sh⟩
  · cases hc
theorem se_lst {es : Es} (h : SEs D F es) : SE D F (.lst es) := by
  intro X G e σ ρ B H g g' env t' fl S hc he
  unfold evalE at he
  obtain ⟨rs, g1, e1, he⟩ := Out.bind_eq he
  cases he
  unfold chkE at hc
  split at hc
  · rename_i es' pos
    obtain ⟨c1, c2⟩ := band hc
    refine wE.of (pe_lst (wA.pa X es')) ((h X G es' σ ρ B H g _ env rs S c1 e1).mono fun vs H1 q => ⟨?_, fun p np => post_lst S q np fun ρ' B' A' z => ?_⟩)
    · obtain ⟨r, A, kp, hr, c, z, hA⟩ := q
      rw [z.length, evalEs_len e1 c1]
      exact small_len (of_decide_eq_true c2)
    · by_cases f : allFl rs = true
      · exact .inl ⟨by rw [if_pos f], A', .refl _, z.own f⟩
      · exact .inr ⟨by rw [if_neg f], z.sh⟩
  · cases hc

/-! ### results of two -/
section
variable {w : World} {K : PySem.W.Frag} {ρ : List Addr} {B : Addr → Prop} {H : Hp} {v u : V} {x y : T × Nat} {A : List Addr}
theorem RFs.r1 {rs : List (T × Nat)} {vs : List V} (h : RFs w K ρ H B (v :: vs) (x :: rs) A) : R w K ρ B H false v x.1 [] := by
  cases h with
  | cons h1 h2 => exact h1.sh.weak fun _ z => .inl z
theorem RFs.tl {rs : List (T × Nat)} {vs : List V} (h : RFs w K ρ H B (v :: vs) (x :: rs) A) : ∃ A', RFs w K ρ H B vs rs A' ∧ A'.Sublist A := by
  cases h with
  | cons h1 h2 => exact ⟨_, h2.weak fun _ z => .inl z, List.sublist_append_right _ _⟩
theorem RFs.r2 (h : RFs w K ρ H B [v, u] [x, y] A) : R w K ρ B H false u y.1 [] := by
  obtain ⟨A', h, _⟩ := h.tl
  exact h.r1
end
/-- what a shared value of a kind is -/
theorem R.int_inv {w : World} {K : PySem.W.Frag} {ρ : List Addr} {B : Addr → Prop} {H : Hp} {o : Bool} {v : V} {i : Int} {A : List Addr} (h : R w K ρ B H o v (.int i) A) : v = .int i := by
  cases h; rfl
theorem R.str_inv {w : World} {K : PySem.W.Frag} {ρ : List Addr} {B : Addr → Prop} {H : Hp} {o : Bool} {v : V} {s : List Nat} {A : List Addr} (h : R w K ρ B H o v (.str s) A) : v = .str ⟨s.toArray⟩ ∧ ∀ c ∈ s, c < 0x110000 := by
  cases h with
  | str _ h => exact ⟨rfl, h⟩
theorem R.lst_inv {w : World} {K : PySem.W.Frag} {ρ : List Addr} {B : Addr → Prop} {H : Hp} {v : V} {ts : List T} {A : List Addr} (h : R w K ρ B H false v (.lst ts) A) : ∃ a vs, v = .ref a ∧ ¬ B a ∧ H a = some (.lst vs) ∧ Rs w K ρ B H false vs ts [] := by
  cases h with
  | lst0 h1 h2 h3 => exact ⟨_, _, rfl, h1, h2, h3⟩
theorem R.lst_inv' {w : World} {K : PySem.W.Frag} {ρ : List Addr} {B : Addr → Prop} {H : Hp} {v : V} {t : T} {ts : List T} {A : List Addr} (h : R w K ρ B H false v t A) (e : t = .lst ts) : ∃ a vs, v = .ref a ∧ ¬ B a ∧ H a = some (.lst vs) ∧ Rs w K ρ B H false vs ts [] := by
  subst e
  exact h.lst_inv
theorem RF.lst2 {w : World} {K : PySem.W.Frag} {ρ : List Addr} {B : Addr → Prop} {H : Hp} {v : V} {ts : List T} {A : List Addr} (h : RF w K ρ B H v (.lst ts) 2 A) : ∃ a vs A', v = .ref a ∧ H a = some (.lst vs) ∧ A = a :: A' ∧ Rs w K ρ B H true vs ts A' := by
  rcases h with ⟨e, _⟩ | ⟨e, _⟩ | ⟨_, h, _⟩
  · cases e
  · cases e
  · cases h with
    | lst2 h1 h2 => exact ⟨_, _, _, rfl, h1, rfl, h2⟩
theorem RF.own2 {w : World} {K : PySem.W.Frag} {ρ : List Addr} {B : Addr → Prop} {H : Hp} {v : V} {t : T} {A : List Addr} (h : RF w K ρ B H v t 2 A) : R w K ρ B H true v t A := by
  rcases h with ⟨e, _⟩ | ⟨e, _⟩ | ⟨_, h, _⟩
  · cases e
  · cases e
  · exact h
theorem RFs.inv2 {w : World} {K : PySem.W.Frag} {ρ : List Addr} {B : Addr → Prop} {H : Hp} {v u : V} {x y : T × Nat} {A : List Addr} (h : RFs w K ρ H B [v, u] [x, y] A) :
    ∃ A1 A2, A = A1 ++ (A2 ++ []) ∧ RF w K ρ (fun a => B a ∨ a ∈ A2 ++ []) H v x.1 x.2 A1 ∧ RF w K ρ (fun a => B a ∨ a ∈ A1) H u y.1 y.2 A2 := by
  cases h with
  | cons h1 h2 => cases h2 with
    | cons h3 h4 => cases h4 with
      | nil => exact ⟨_, _, rfl, h1, h3.weakB fun _ z => .inl z⟩
theorem RFs.inv1 {w : World} {K : PySem.W.Frag} {ρ : List Addr} {B : Addr → Prop} {H : Hp} {v : V} {x : T × Nat} {A : List Addr} (h : RFs w K ρ H B [v] [x] A) : RF w K ρ B H v x.1 x.2 A := by
  cases h with
  | cons h1 h2 => cases h2 with
    | nil =>
      rw [List.append_nil]
      exact h1.weakB fun _ z => .inl z
theorem Rs.app {w : World} {K : PySem.W.Frag} {ρ : List Addr} {B : Addr → Prop} {H : Hp} {o : Bool} : ∀ {vs vs' : List V} {ts ts' : List T} {A A' : List Addr}, Rs w K ρ B H o vs ts A → Rs w K ρ B H o vs' ts' A' → Rs w K ρ B H o (vs ++ vs') (ts ++ ts') (A ++ A')
  | _, _, _, _, _, _, .nil, h => h
  | _, _, _, _, _, _, .cons h1 h2, h => by
    rw [List.append_assoc]
    exact .cons h1 (h2.app h)
theorem R.tup_inv {w : World} {K : PySem.W.Frag} {ρ : List Addr} {B : Addr → Prop} {H : Hp} {o : Bool} {v : V} {ts : List T} {A : List Addr} (h : R w K ρ B H o v (.tup ts) A) : ∃ a vs, v = .ref a ∧ SqT K H a vs ∧ Rs w K ρ B H o vs ts A := by
  cases h with
  | tup h1 h2 => exact ⟨_, _, rfl, h1, h2⟩

/-! ### operators -/
theorem op_powX {X : Cx} : OpR X (binaryOp .Pow) (rI (fun i j => powOk i j = true) fun i j => .int (i ^ j.toNat)) := opI fun i j _ _ _ _ _ hc q => by
  obtain ⟨h1, h2⟩ := band hc
  have h0 : 0 ≤ j := of_decide_eq_true h1
  have h3 : (i.natAbs.log2 + 1) * j.toNat < 1000000 := of_decide_eq_true h2
  refine pow_int h0 ?_ q
  have hb : Builtin.Int.intBits i ≤ i.natAbs.log2 + 1 := by
    unfold Builtin.Int.intBits
    split <;> omega
  have h4 : Builtin.Int.intBits i * j.toNat < 1000000 := Nat.lt_of_le_of_lt (Nat.mul_le_mul_right _ hb) h3
  have h5 : ((Builtin.Int.intBits i * j.toNat : Nat) : Int) < 1000000 := by omega
  rw [Int.natCast_mul, Int.toNat_of_nonneg h0] at h5
  have : (2 : Int) ^ 27 = 134217728 := by decide
  omega
theorem op_int {X : Cx} {o : O2} {p : Operator} (h : opIs o p = true) : OpR X (binaryOp p) fun x y H Q => ∃ i j k, x = .int i ∧ y = .int j ∧ binI o i j = some k ∧ Q (.int k) H := by
  intro pins s σ H x y v u Q I rx ry hq
  obtain ⟨i, j, k, rfl, rfl, hk, q⟩ := hq
  unfold opIs at h
  split at h
  · cases hk
    exact op_add pins s σ H _ _ v u Q I rx ry ⟨i, j, rfl, rfl, q⟩
  · cases hk
    exact op_sub pins s σ H _ _ v u Q I rx ry ⟨i, j, rfl, rfl, q⟩
  · unfold binI at hk
    simp only at hk
    split at hk
    · rename_i hm
      cases hk
      exact op_mulW pins s σ H _ _ v u Q I rx ry ⟨i, j, rfl, rfl, show i.natAbs.log2 + j.natAbs.log2 < 1000000 from of_decide_eq_true hm, q⟩
    · cases hk
  · unfold binI at hk
    simp only at hk
    split at hk
    · rename_i hm
      cases hk
      obtain ⟨m1, m2⟩ := band hm
      exact op_fdivW pins s σ H _ _ v u Q I rx ry ⟨i, j, rfl, rfl, ⟨of_decide_eq_true m1, of_decide_eq_true m2⟩, q⟩
    · cases hk
  · unfold binI at hk
    simp only at hk
    split at hk
    · rename_i hm
      cases hk
      obtain ⟨m1, m2⟩ := band hm
      exact op_mod pins s σ H _ _ v u Q I rx ry ⟨i, j, rfl, rfl, of_decide_eq_true m1, q⟩
    · cases hk
  · unfold binI at hk
    simp only at hk
    split at hk
    · rename_i hm
      cases hk
      exact op_powX pins s σ H _ _ v u Q I rx ry ⟨i, j, rfl, rfl, hm, q⟩
    · cases hk
  · cases h
theorem str_app (x y : List Nat) : (⟨x.toArray⟩ : Str) ++ ⟨y.toArray⟩ = ⟨(x ++ y).toArray⟩ := by
  show (⟨x.toArray ++ y.toArray⟩ : Str) = _
  congr 1
  simp
theorem str_len (x : List Nat) : (⟨x.toArray⟩ : Str).length = x.length := by
  show x.toArray.size = x.length
  simp
theorem se_bin {o : O2} {a b : E} (ha : SE D F a) (hb : SE D F b) : SE D F (.bin o a b) := by
  intro X G e σ ρ B H g g' env t fl S hc he
  unfold evalE at he
  obtain ⟨x, g1, ea, he⟩ := Out.bind_eq he
  obtain ⟨y, g2, eb, he⟩ := Out.bind_eq he
  obtain ⟨hf, rfl⟩ := Out.of_eq he
  unfold chkE at hc
  split at hc
  · rename_i a' p b' pos
    obtain ⟨c12, cb⟩ := band hc
    obtain ⟨co, ca⟩ := band c12
    unfold binV at hf
    split at hf
    · rename_i i j hx hy
      obtain ⟨k, hk, hf⟩ := Option.map_eq_some_iff.mp hf
      cases hf
      refine wE.of (pe_op (op_int co) (wE.pe X a') (wE.pe X b')) (two ha hb G S ca cb ea eb fun v u H' q z => ?_)
      obtain ⟨r, A, kp, hr, c, h, hA⟩ := id q
      have e1 := h.r1
      have e2 := h.r2
      rw [hx] at e1
      rw [hy] at e2
      exact ⟨i, j, k, e1.int_inv, e2.int_inv, hk, q.base.int k⟩
    · rename_i xs ys hx hy
      split at hf
      · rename_i hadd
        cases hf
        obtain ⟨rfl, hz⟩ := hadd
        have hp : p = .Add := by
          unfold opIs at co
          split at co <;> first | rfl | simp at * 
        subst hp
        refine wE.of (pe_op op_cat (wE.pe X a') (wE.pe X b')) (two ha hb G S ca cb ea eb fun v u H' q z => ?_)
        obtain ⟨r, A, kp, hr, c, h, hA⟩ := id q
        have e1 := h.r1
        have e2 := h.r2
        rw [hx] at e1
        rw [hy] at e2
        obtain ⟨l1, vs1, rfl, _, hl1, r1⟩ := e1.lst_inv
        obtain ⟨l2, vs2, rfl, _, hl2, r2⟩ := e2.lst_inv
        refine ⟨l1, l2, vs1, vs2, rfl, rfl, hl1, hl2, ?_, fun np hnp => post_lst S q hnp fun ρ' B' A' z' => ?_⟩
        · rw [r1.length, r2.length]
          exact hz
        · obtain ⟨A1, A2, rfl, f1, f2⟩ := z'.inv2
          rw [hx] at f1
          rw [hy] at f2
          unfold fl2
          split
          · rename_i hf2
            rw [hf2.1] at f1
            rw [hf2.2] at f2
            obtain ⟨m1, ws1, A1', e3, h3, rfl, k3⟩ := f1.lst2
            obtain ⟨m2, ws2, A2', e4, h4, rfl, k4⟩ := f2.lst2
            cases e3
            cases e4
            rw [hl1] at h3
            cases h3
            rw [hl2] at h4
            cases h4
            exact .inl ⟨rfl, A1' ++ A2', (List.sublist_cons_self _ _).append ((List.sublist_cons_self _ _).trans (List.sublist_append_left _ _)), (k3.weak fun _ z => .inl z).app (k4.weak fun _ z => .inl z)⟩
          · obtain ⟨m1, ws1, e3, _, h3, k3⟩ := (z'.r1 (x := x)).lst_inv' hx
            obtain ⟨m2, ws2, e4, _, h4, k4⟩ := (z'.r2 (y := y)).lst_inv' hy
            cases e3
            cases e4
            rw [hl1] at h3
            cases h3
            rw [hl2] at h4
            cases h4
            exact .inr ⟨rfl, k3.app k4⟩
      · cases hf
    · rename_i s1 s2 hx hy
      split at hf
      · rename_i hadd
        cases hf
        obtain ⟨rfl, hz⟩ := hadd
        have hp : p = .Add := by
          unfold opIs at co
          split at co <;> first | rfl | simp at *
        subst hp
        refine wE.of (pe_op op_add_str (wE.pe X a') (wE.pe X b')) (two ha hb G S ca cb ea eb fun v u H' q z => ?_)
        obtain ⟨r, A, kp, hr, c, h, hA⟩ := id q
        have e1 := h.r1
        have e2 := h.r2
        rw [hx] at e1
        rw [hy] at e2
        obtain ⟨rfl, n1⟩ := e1.str_inv
        obtain ⟨rfl, n2⟩ := e2.str_inv
        refine ⟨_, _, rfl, rfl, ?_, ?_⟩
        · rw [str_len, str_len]
          exact hz
        · rw [str_app]
          exact q.base.post fun _ _ => .str _ fun c hc => by
            rcases List.mem_append.mp hc with hc | hc
            · exact n1 c hc
            · exact n2 c hc
      · cases hf
    · cases hf
  · cases hc
end Fx
end

section
set_option Elab.async false
set_option linter.all false
set_option maxRecDepth 100000
/-! Fx7: comparisons, tests, subscripts, slices. -/
namespace Fx
open PySem PySem.Spec PyProof.Rows L2
variable {D : Dec} {F : Call}

/-! ### trees as the library's data -/
mutual
theorem T.dat_depth : ∀ t : T, t.dat.depth = t.deep
  | .non => by simp [T.dat, T.deep, PyData.depth]
  | .bl _ => by simp [T.dat, T.deep, PyData.depth]
  | .int _ => by simp [T.dat, T.deep, PyData.depth]
  | .str _ => by simp [T.dat, T.deep, PyData.depth]
  | .tup ts => by simp [T.dat, T.deep, PyData.depth, T.dats_depth ts]
  | .lst ts => by simp [T.dat, T.deep, PyData.depth, T.dats_depth ts]
  | .dic _ _ _ => by simp [T.dat, T.deep, PyData.depth]
  | .fro _ => by simp [T.dat, T.deep, PyData.depth]
  | .cell _ => by simp [T.dat, T.deep, PyData.depth]
theorem T.dats_depth : ∀ ts : List T, PyData.depthAll (T.dats ts) = T.deeps ts
  | [] => by simp [T.dats, T.deeps, PyData.depthAll]
  | t :: r => by simp [T.dats, T.deeps, PyData.depthAll, T.dat_depth t, T.dats_depth r]
end
mutual
theorem T.dat_eqv : ∀ a b : T, a.plain = true → b.plain = true → PyData.eqv a.dat b.dat = a.eqv b
  | .non, b, _, hb => by cases b <;> first | rfl | cases hb
  | .bl _, b, _, hb => by cases b <;> first | rfl | cases hb
  | .int _, b, _, hb => by cases b <;> first | rfl | cases hb
  | .str x, b, _, hb => by
    cases b with
    | str y =>
      show (Str.mk x.toArray == Str.mk y.toArray) = (x == y)
      by_cases e : x = y
      · subst e; simp
      · rw [beq_eq_false_iff_ne.mpr e]
        exact beq_eq_false_iff_ne.mpr fun z => e (by simpa using congrArg (fun s : Str => s.cps.toList) z)
    | _ => first | rfl | cases hb
  | .tup xs, b, ha, hb => by
    cases b with
    | tup ys =>
      show PyData.eqvAll (T.dats xs) (T.dats ys) = T.eqvs xs ys
      exact T.dats_eqv xs ys ha hb
    | _ => first | rfl | cases hb
  | .lst xs, b, ha, hb => by
    cases b with
    | lst ys =>
      show PyData.eqvAll (T.dats xs) (T.dats ys) = T.eqvs xs ys
      exact T.dats_eqv xs ys ha hb
    | _ => first | rfl | cases hb
  | .dic _ _ _, _, ha, _ => by cases ha
  | .fro _, _, ha, _ => by cases ha
  | .cell _, _, ha, _ => by cases ha
theorem T.dats_eqv : ∀ a b : List T, T.plains a = true → T.plains b = true → PyData.eqvAll (T.dats a) (T.dats b) = T.eqvs a b
  | [], [], _, _ => rfl
  | [], _ :: _, _, _ => rfl
  | _ :: _, [], _, _ => rfl
  | x :: xs, y :: ys, ha, hb => by
    obtain ⟨a1, a2⟩ := band (show (T.plain x && T.plains xs) = true from ha)
    obtain ⟨b1, b2⟩ := band (show (T.plain y && T.plains ys) = true from hb)
    show (PyData.eqv x.dat y.dat && PyData.eqvAll (T.dats xs) (T.dats ys)) = (T.eqv x y && T.eqvs xs ys)
    rw [T.dat_eqv x y a1 b1, T.dats_eqv xs ys a2 b2]
end
section
variable {w : World} {K : PySem.W.Frag} {ρ : List Addr} {B : Addr → Prop} {H : Hp}
mutual
theorem R.dp : ∀ {o : Bool} {v : V} {t : T} {A : List Addr}, R w K ρ B H o v t A → t.plain = true → Dp K H v t.dat ∧ t.dat.canLay0 = true
  | _, _, _, _, .non, _ => ⟨.non, by simp [T.dat, PyData.canLay0]⟩
  | _, _, _, _, .bl b, _ => ⟨.bl b, by simp [T.dat, PyData.canLay0]⟩
  | _, _, _, _, .int i, _ => ⟨.int i, by simp [T.dat, PyData.canLay0]⟩
  | _, _, _, _, .str s h, _ => ⟨.str _, by
    show PyData.strOk (Str.mk s.toArray) = true
    unfold PyData.strOk
    rw [Array.all_eq_true']
    intro c hc
    exact decide_eq_true (h c (by simpa using hc))⟩
  | _, _, _, _, .tup h1 h2, hp => by
    obtain ⟨a, b⟩ := Rs.dp h2 hp
    exact ⟨.tup h1 a, b⟩
  | _, _, _, _, .lst0 h1 h2 h3, hp => by
    obtain ⟨a, b⟩ := Rs.dp h3 hp
    exact ⟨.lst (SqL.of h2) a, b⟩
  | _, _, _, _, .lst2 h1 h2, hp => by
    obtain ⟨a, b⟩ := Rs.dp h2 hp
    exact ⟨.lst (SqL.of h1) a, b⟩
  | _, _, _, _, .fro h1 h2, hp => by cases hp
  | _, _, _, _, .cell h1, hp => by cases hp
  | _, _, _, _, .dicS .., hp => by cases hp
  | _, _, _, _, .dicN .., hp => by cases hp
theorem Rs.dp : ∀ {o : Bool} {vs : List V} {ts : List T} {A : List Addr}, Rs w K ρ B H o vs ts A → T.plains ts = true → DpAll K H vs (T.dats ts) ∧ PyData.canLayAll0 (T.dats ts) = true
  | _, _, _, _, .nil, _ => ⟨.nil, by simp [T.dats, PyData.canLayAll0]⟩
  | _, _, _, _, .cons h1 h2, hp => by
    obtain ⟨p1, p2⟩ := band (show (T.plain _ && T.plains _) = true from hp)
    obtain ⟨a1, b1⟩ := R.dp h1 p1
    obtain ⟨a2, b2⟩ := Rs.dp h2 p2
    exact ⟨.cons a1 a2, by simp [T.dats, PyData.canLayAll0, b1, b2]⟩
end
end

/-! ### comparisons by values -/
section
variable {X : Cx}
/-- a comparison of two trees, the answer given -/
def rCmp (X : Cx) (f : T → T → Option Bool) : R2 := fun x y H Q => ∃ a b ρ B A A' c, R X.w X.K ρ B H false x a A ∧ R X.w X.K ρ B H false y b A' ∧ f a b = some c ∧ Q (.bl c) H
theorem okEq_min {a b : T} {n : Nat} (h : a.okEq b = true) (hu : n + 100 < cLine) : n + min a.dat.depth b.dat.depth < cLine := by
  obtain ⟨h12, h3⟩ := band h
  have h3' := (Bool.or_eq_true_iff.mp h3).imp of_decide_eq_true of_decide_eq_true
  rw [T.dat_depth, T.dat_depth]
  omega
theorem op_eqT (hu : X.A.units + 100 < cLine) : OpR X (compareOp .Eq) (rCmp X (cmpV .Eq)) := by
  intro pins s σ H x y v u Q I rx ry h
  obtain ⟨a, b, ρ, B, A, A', c, ra, rb, e, q⟩ := h
  unfold cmpV at e
  simp only at e
  split at e
  · rename_i hok
    cases e
    obtain ⟨h12, h3⟩ := band hok
    obtain ⟨p1, p2⟩ := band h12
    obtain ⟨d1, l1⟩ := ra.dp p1
    obtain ⟨d2, l2⟩ := rb.dp p2
    obtain ⟨as, r1⟩ := Dp.reads I _ x v d1 rx
    obtain ⟨bs, r2⟩ := Dp.reads I _ y u d2 ry
    exact SeqAt.compareEq_reads r1 r2 l1 l2 (okEq_min hok hu) (by rw [T.dat_eqv a b p1 p2]; exact ⟨.bl _, H, I, rfl, q⟩)
  · cases e
theorem op_neT (hu : X.A.units + 100 < cLine) : OpR X (compareOp .NotEq) (rCmp X (cmpV .NotEq)) := by
  intro pins s σ H x y v u Q I rx ry h
  obtain ⟨a, b, ρ, B, A, A', c, ra, rb, e, q⟩ := h
  unfold cmpV at e
  simp only at e
  split at e
  · rename_i hok
    cases e
    obtain ⟨h12, h3⟩ := band hok
    obtain ⟨p1, p2⟩ := band h12
    obtain ⟨d1, l1⟩ := ra.dp p1
    obtain ⟨d2, l2⟩ := rb.dp p2
    obtain ⟨as, r1⟩ := Dp.reads I _ x v d1 rx
    obtain ⟨bs, r2⟩ := Dp.reads I _ y u d2 ry
    exact SeqAt.compareNe_reads r1 r2 l1 l2 (okEq_min hok hu) (by rw [T.dat_eqv a b p1 p2]; exact ⟨.bl _, H, I, rfl, q⟩)
  · cases e
theorem okEqs_min {a : T} {bs : List T} {n : Nat} (h : a.okEqs bs = true) (hu : n + 100 < cLine) : n + 1 + min (PyData.depthAll (T.dats bs)) a.dat.depth < cLine := by
  obtain ⟨h12, h3⟩ := band h
  have h3' := (Bool.or_eq_true_iff.mp h3).imp of_decide_eq_true of_decide_eq_true
  rw [T.dat_depth, T.dats_depth]
  omega
theorem any_dat {k : T} (hk : k.plain = true) : ∀ {ts : List T}, T.plains ts = true → ((T.dats ts).any fun y => PyData.eqv y k.dat) = ts.any fun z => z.eqv k
  | [], _ => rfl
  | t :: r, h => by
    obtain ⟨h1, h2⟩ := band (show (T.plain t && T.plains r) = true from h)
    show (PyData.eqv t.dat k.dat || (T.dats r).any fun y => PyData.eqv y k.dat) = (t.eqv k || r.any fun z => z.eqv k)
    rw [T.dat_eqv t k h1 hk, any_dat hk h2]
/-- x in y, for lists, tuples and signs of a text -/
theorem op_inT0 (hu : X.A.units + 100 < cLine) : OpR X (compareOp .In) (rCmp X fun a b => match b with
    | .dic _ _ _ => none
    | b => inV a b) ∧ OpR X (compareOp .NotIn) (rCmp X fun a b => match b with
    | .dic _ _ _ => none
    | b => (inV a b).map not) := by
  constructor
  · intro pins s σ H x y v u Q I rx ry h
    obtain ⟨a, b, ρ, B, A, A', c, ra, rb, e, q⟩ := h
    cases rb with
    | lst0 h1 h2 h3 =>
      rename_i ad vs ts
      simp only [inV] at e
      split at e
      · rename_i hok
        cases e
        obtain ⟨h12, _⟩ := band hok
        obtain ⟨p1, p2⟩ := band h12
        obtain ⟨d1, l1⟩ := ra.dp p1
        obtain ⟨d2, l2⟩ := h3.dp p2
        obtain ⟨as, r1⟩ := Dp.reads I _ x v d1 rx
        obtain ⟨bs, r2⟩ := Dp.reads I (.list (T.dats ts)) (.ref ad) u (.lst (SqL.of h2) d2) ry
        exact SeqAt.in_list_reads r2 r1 l2 l1 (okEqs_min hok hu) (by rw [any_dat p1 p2]; exact ⟨.bl _, H, I, rfl, q⟩)
      · cases e
    | tup h1 h2 =>
      rename_i ad vs ts
      simp only [inV] at e
      split at e
      · rename_i hok
        cases e
        obtain ⟨h12, _⟩ := band hok
        obtain ⟨p1, p2⟩ := band h12
        obtain ⟨d1, l1⟩ := ra.dp p1
        obtain ⟨d2, l2⟩ := h2.dp p2
        obtain ⟨as, r1⟩ := Dp.reads I _ x v d1 rx
        obtain ⟨bs, r2⟩ := Dp.reads I (.tuple (T.dats ts)) (.ref ad) u (.tup h1 d2) ry
        exact SeqAt.in_tuple_reads r2 r1 l2 l1 (okEqs_min hok hu) (by rw [any_dat p1 p2]; exact ⟨.bl _, H, I, rfl, q⟩)
      · cases e
    | str sb hb =>
      simp only [inV] at e
      split at e
      · rename_i cc
        cases e
        cases ra
        exact op_in_sign pins s σ H _ _ v u Q I rx ry ⟨cc, _, rfl, rfl, by simpa using q⟩
      · cases e
    | _ => simp [inV] at e
  · intro pins s σ H x y v u Q I rx ry h
    obtain ⟨a, b, ρ, B, A, A', c, ra, rb, e, q⟩ := h
    cases rb with
    | lst0 h1 h2 h3 =>
      rename_i ad vs ts
      simp only [inV] at e
      split at e
      · rename_i hok
        cases e
        obtain ⟨h12, _⟩ := band hok
        obtain ⟨p1, p2⟩ := band h12
        obtain ⟨d1, l1⟩ := ra.dp p1
        obtain ⟨d2, l2⟩ := h3.dp p2
        obtain ⟨as, r1⟩ := Dp.reads I _ x v d1 rx
        obtain ⟨bs, r2⟩ := Dp.reads I (.list (T.dats ts)) (.ref ad) u (.lst (SqL.of h2) d2) ry
        exact SeqAt.notIn_list_reads r2 r1 l2 l1 (okEqs_min hok hu) (by rw [any_dat p1 p2]; exact ⟨.bl _, H, I, rfl, q⟩)
      · cases e
    | tup h1 h2 =>
      rename_i ad vs ts
      simp only [inV] at e
      split at e
      · rename_i hok
        cases e
        obtain ⟨h12, _⟩ := band hok
        obtain ⟨p1, p2⟩ := band h12
        obtain ⟨d1, l1⟩ := ra.dp p1
        obtain ⟨d2, l2⟩ := h2.dp p2
        obtain ⟨as, r1⟩ := Dp.reads I _ x v d1 rx
        obtain ⟨bs, r2⟩ := Dp.reads I (.tuple (T.dats ts)) (.ref ad) u (.tup h1 d2) ry
        exact SeqAt.notIn_tuple_reads r2 r1 l2 l1 (okEqs_min hok hu) (by rw [any_dat p1 p2]; exact ⟨.bl _, H, I, rfl, q⟩)
      · cases e
    | str sb hb =>
      simp only [inV] at e
      split at e
      · rename_i cc
        cases e
        cases ra
        exact op_notIn_sign pins s σ H _ _ v u Q I rx ry ⟨cc, _, rfl, rfl, by simpa using q⟩
      · cases e
    | _ => simp [inV] at e
end
end Fx
end

section
set_option Elab.async false
set_option linter.all false
set_option maxRecDepth 100000
/-! Fx8: dicts by values. -/
namespace Fx
open PySem PySem.Spec PyProof.Rows L2

/-! ### keys -/
mutual
theorem nk_eqv : ∀ a b : T, a.flat = true → a.plain = true → b.flat = true → b.plain = true → a.eqv b = decide (a.nk = b.nk)
  | .non, b, _, _, fb, pb => by cases b <;> first | rfl | (cases fb; done) | (cases pb; done)
  | .bl x, b, _, _, fb, pb => by
    cases b with
    | bl y => cases x <;> cases y <;> rfl
    | int j =>
      show ((if x then 1 else 0 : Int) == j) = decide (NestedKey.num (if x = true then 1 else 0) = .num j)
      by_cases e : (if x = true then 1 else 0 : Int) = j
      · simp [e]
      · rw [beq_eq_false_iff_ne.mpr e, decide_eq_false fun z => e (NestedKey.num.inj z)]
    | _ => first | rfl | (cases fb; done) | (cases pb; done)
  | .int i, b, _, _, fb, pb => by
    cases b with
    | bl y =>
      show (i == (if y then 1 else 0 : Int)) = decide (NestedKey.num i = .num (if y = true then 1 else 0))
      by_cases e : i = (if y = true then 1 else 0 : Int)
      · simp [e]
      · rw [beq_eq_false_iff_ne.mpr e, decide_eq_false fun z => e (NestedKey.num.inj z)]
    | int j =>
      show (i == j) = decide (NestedKey.num i = .num j)
      by_cases e : i = j
      · simp [e]
      · rw [beq_eq_false_iff_ne.mpr e, decide_eq_false fun z => e (NestedKey.num.inj z)]
    | _ => first | rfl | (cases fb; done) | (cases pb; done)
  | .str x, b, _, _, fb, pb => by
    cases b with
    | str y =>
      show (x == y) = decide (NestedKey.text ⟨x.toArray⟩ = .text ⟨y.toArray⟩)
      by_cases e : x = y
      · subst e; simp
      · rw [beq_eq_false_iff_ne.mpr e, decide_eq_false fun z => e (by simpa using congrArg (fun s : Str => s.cps.toList) (NestedKey.text.inj z))]
    | _ => first | rfl | (cases fb; done) | (cases pb; done)
  | .tup xs, b, fa, pa, fb, pb => by
    cases b with
    | tup ys =>
      show T.eqvs xs ys = decide (NestedKey.tup (T.nks xs) = .tup (T.nks ys))
      rw [nks_eqv xs ys fa pa fb pb]
      by_cases e : T.nks xs = T.nks ys
      · rw [decide_eq_true e, e, decide_eq_true rfl]
      · rw [decide_eq_false e, decide_eq_false fun z => e (NestedKey.tup.inj z)]
    | _ => first | rfl | (cases fb; done) | (cases pb; done)
  | .lst _, _, fa, _, _, _ => by cases fa
  | .dic _ _ _, _, fa, _, _, _ => by cases fa
  | .fro _, _, fa, _, _, _ => by cases fa
  | .cell _, _, _, pa, _, _ => by cases pa
theorem nks_eqv : ∀ a b : List T, T.flats a = true → T.plains a = true → T.flats b = true → T.plains b = true → T.eqvs a b = decide (T.nks a = T.nks b)
  | [], [], _, _, _, _ => rfl
  | [], _ :: _, _, _, _, _ => rfl
  | _ :: _, [], _, _, _, _ => rfl
  | x :: xs, y :: ys, fa, pa, fb, pb => by
    obtain ⟨f1, f2⟩ := band (show (T.flat x && T.flats xs) = true from fa)
    obtain ⟨p1, p2⟩ := band (show (T.plain x && T.plains xs) = true from pa)
    obtain ⟨f3, f4⟩ := band (show (T.flat y && T.flats ys) = true from fb)
    obtain ⟨p3, p4⟩ := band (show (T.plain y && T.plains ys) = true from pb)
    show (T.eqv x y && T.eqvs xs ys) = decide (x.nk :: T.nks xs = y.nk :: T.nks ys)
    rw [nk_eqv x y f1 p1 f3 p3, nks_eqv xs ys f2 p2 f4 p4]
    by_cases e1 : x.nk = y.nk <;> by_cases e2 : T.nks xs = T.nks ys <;> simp [e1, e2]
end
mutual
theorem nk_depth : ∀ a : T, a.flat = true → a.plain = true → a.nk.depth = a.deep
  | .non, _, _ => by simp [T.nk, T.deep, NestedKey.depth]
  | .bl _, _, _ => by simp [T.nk, T.deep, NestedKey.depth]
  | .int _, _, _ => by simp [T.nk, T.deep, NestedKey.depth]
  | .str _, _, _ => by simp [T.nk, T.deep, NestedKey.depth]
  | .tup xs, f, p => by simp [T.nk, T.deep, NestedKey.depth, nks_depth xs f p]
  | .lst _, f, _ => by cases f
  | .dic _ _ _, f, _ => by cases f
  | .fro _, f, _ => by cases f
  | .cell _, _, p => by cases p
theorem nks_depth : ∀ a : List T, T.flats a = true → T.plains a = true → NestedKey.depthAll (T.nks a) = T.deeps a
  | [], _, _ => by simp [T.nks, T.deeps, NestedKey.depthAll]
  | x :: xs, f, p => by
    obtain ⟨f1, f2⟩ := band (show (T.flat x && T.flats xs) = true from f)
    obtain ⟨p1, p2⟩ := band (show (T.plain x && T.plains xs) = true from p)
    simp [T.nks, T.deeps, NestedKey.depthAll, nk_depth x f1 p1, nks_depth xs f2 p2]
end
section
variable {X : Cx} {pins : List (Addr × Obj)} {σ : L2.St} {H : Hp} {s : Shared} {ρ : List Addr} {B : Addr → Prop}
mutual
theorem R.nis (I : L2.Inv X pins σ H s) : ∀ {o : Bool} {v : V} {t : T} {A : List Addr} {u : Value}, R X.w X.K ρ B H o v t A → t.flat = true → t.plain = true → L2.RelV v u → NestedIs s.heap t.nk u
  | _, _, _, _, _, .non, _, _, r => by cases r; exact .none
  | _, _, _, _, _, .bl b, _, _, r => by cases r; exact .bool rfl
  | _, _, _, _, _, .int i, _, _, r => by obtain ⟨t, rfl⟩ := r; exact .int i t
  | _, _, _, _, _, .str x _, _, _, r => by obtain ⟨t, rfl⟩ := r; exact .text _ t
  | _, _, _, _, _, .tup h1 h2, f, p, r => by
    cases r
    obtain ⟨its, rv, ⟨o, e, c, n, d⟩, z⟩ := I.tuple h1
    exact .tup e c d (by rw [List.toList_toArray]; exact Rs.nis I h2 f p rv)
  | _, _, _, _, _, .lst0 .., f, _, _ => by cases f
  | _, _, _, _, _, .lst2 .., f, _, _ => by cases f
  | _, _, _, _, _, .fro .., f, _, _ => by cases f
  | _, _, _, _, _, .cell _, _, p, _ => by cases p
  | _, _, _, _, _, .dicS .., f, _, _ => by cases f
  | _, _, _, _, _, .dicN .., f, _, _ => by cases f
theorem Rs.nis (I : L2.Inv X pins σ H s) : ∀ {o : Bool} {vs : List V} {ts : List T} {A : List Addr} {us : List Value}, Rs X.w X.K ρ B H o vs ts A → T.flats ts = true → T.plains ts = true → Vals vs us → NestedAll s.heap (T.nks ts) us
  | _, _, _, _, _, .nil, _, _, .nil => .nil
  | _, _, _, _, _, .cons h1 h2, f, p, .cons r1 r2 => by
    obtain ⟨f1, f2⟩ := band (show (T.flat _ && T.flats _) = true from f)
    obtain ⟨p1, p2⟩ := band (show (T.plain _ && T.plains _) = true from p)
    exact .cons (R.nis I h1 f1 p1 r1) (Rs.nis I h2 f2 p2 r2)
end
end

theorem Rs.inv {w : World} {K : PySem.W.Frag} {ρ : List Addr} {B : Addr → Prop} {H : Hp} {o : Bool} {v : V} {vs : List V} {t : T} {ts : List T} {A : List Addr} (h : Rs w K ρ B H o (v :: vs) (t :: ts) A) :
    ∃ A1 A2, A = A1 ++ A2 ∧ R w K ρ B H o v t A1 ∧ Rs w K ρ B H o vs ts A2 := by
  cases h with
  | cons h1 h2 => exact ⟨_, _, rfl, h1, h2⟩
theorem Rs.inv0 {w : World} {K : PySem.W.Frag} {ρ : List Addr} {B : Addr → Prop} {H : Hp} {o : Bool} {v : V} {vs : List V} {t : T} {ts : List T} (h : Rs w K ρ B H o (v :: vs) (t :: ts) []) :
    R w K ρ B H o v t [] ∧ Rs w K ρ B H o vs ts [] := by
  obtain ⟨A1, A2, e, h1, h2⟩ := h.inv
  obtain ⟨rfl, rfl⟩ := List.append_eq_nil_iff.mp e.symm
  exact ⟨h1, h2⟩

/-! ### the nested kind -/
def xs3 : List NestedKey → List Addr → List Value → List (NestedKey × Addr × Value)
  | k :: ks, a :: as, u :: us => (k, a, u) :: xs3 ks as us
  | _, _, _ => []
theorem ents_eq {P : Program} {w : World} : ∀ (nks : List NestedKey) (kas : List Addr) (us : List Value), ents w nks kas us = (xs3 nks kas us).map (entryOfKey (nestedKind P w))
  | [], _, _ => by simp [ents, xs3]
  | _ :: _, [], _ => by simp [ents, xs3]
  | _ :: _, _ :: _, [] => by simp [ents, xs3]
  | k :: ks, a :: as, u :: us => by
    show _ :: ents w ks as us = _ :: (xs3 ks as us).map _
    rw [ents_eq ks as us]
    rfl
theorem xs3_keys : ∀ (nks : List NestedKey) (kas : List Addr) (us : List Value), kas.length = nks.length → us.length = nks.length → (xs3 nks kas us).map (·.1) = nks
  | [], _, _, _, _ => by simp [xs3]
  | _ :: _, [], _, h, _ => by simp at h
  | _ :: _, _ :: _, [], _, h => by simp at h
  | k :: ks, a :: as, u :: us, h1, h2 => by
    show k :: (xs3 ks as us).map (·.1) = k :: ks
    rw [xs3_keys ks as us (by simpa using h1) (by simpa using h2)]
theorem xs3_len : ∀ (nks : List NestedKey) (kas : List Addr) (us : List Value), (xs3 nks kas us).length ≤ us.length
  | [], _, _ => by simp [xs3]
  | _ :: _, [], _ => by simp [xs3]
  | _ :: _, _ :: _, [] => by simp [xs3]
  | k :: ks, a :: as, u :: us => by
    have := xs3_len ks as us
    show (xs3 ks as us).length + 1 ≤ us.length + 1
    omega
theorem keyOk_t {k : T} (h : keyOk true k = true) : ∃ ts, k = .tup ts ∧ k.flat = true ∧ k.plain = true ∧ k.deep ≤ 8 := by
  cases k with
  | tup ts =>
    obtain ⟨h12, h3⟩ := band (show (T.flats ts && T.plains ts && decide (T.deeps ts < 8)) = true from h)
    obtain ⟨h1, h2⟩ := band h12
    have h4 := of_decide_eq_true h3
    exact ⟨_, rfl, h1, h2, h4⟩
  | _ => cases h
section
variable {X : Cx} {pins : List (Addr × Obj)} {σ : L2.St} {H : Hp} {s : Shared} {ρ : List Addr} {B : Addr → Prop}
theorem keys_is (I : L2.Inv X pins σ H s) : ∀ {ks : List T} {kas : List Addr} {us : List Value}, Rs X.w X.K ρ B H true (kas.map V.ref) ks [] → ks.all (keyOk true) = true → ∀ x ∈ xs3 (T.nks ks) kas us, (nestedKind X.prog X.w).is s.heap x.1 x.2.1
  | [], _, _, _, _, x, hx => by simp [xs3, T.nks] at hx
  | _ :: _, [], _, _, _, x, hx => by simp [xs3, T.nks] at hx
  | _ :: _, _ :: _, [], _, _, x, hx => by simp [xs3, T.nks] at hx
  | k :: ks, a :: as, u :: us, h, hk, x, hx => by
    obtain ⟨k1, k2⟩ := band (show (keyOk true k && ks.all (keyOk true)) = true from hk)
    rw [List.map_cons] at h
    obtain ⟨h1, h2⟩ := h.inv0
    rcases List.mem_cons.mp (show x ∈ (k.nk, a, u) :: xs3 (T.nks ks) as us from hx) with rfl | hx
    · obtain ⟨ts, _, f, p, d⟩ := keyOk_t k1
      exact ⟨h1.nis I f p rfl, by rw [nk_depth k f p]; exact d⟩
    · exact keys_is I h2 k2 x hx
/-- the dict of the model -/
theorem dict_of (I : L2.Inv X pins σ H s) {a : Addr} {ks : List T} {kas : List Addr} {vs : List V} (e : H a = some (.ext (DictIs X.w a (T.nks ks) kas vs))) (hl : kas.length = vs.length) (hkl : kas.length = ks.length) (nd : (T.nks ks).Nodup)
    (hk : ks.all (keyOk true) = true) (h : Rs X.w X.K ρ B H true (kas.map V.ref) ks []) :
    ∃ us, Vals vs us ∧ (a == sysModules) = false ∧ vs.length ≤ sizeLine ∧ s.heap.DictOfH (nestedKind X.prog X.w) a (xs3 (T.nks ks) kas us) := by
  obtain ⟨φ, _, _⟩ := I.hok a _ e
  obtain ⟨hs, hz, o, es, ep, us, e1, e2, e3, e4, e5⟩ := φ
  have hlen := e4.length
  have hnk : ∀ l : List T, (T.nks l).length = l.length := fun l => by
    induction l with
    | nil => rfl
    | cons x r ih => simp [T.nks, ih]
  refine ⟨us, e4, hs, hz, o, es, ep, e1, e2, e3, by rw [e5, ents_eq (P := X.prog)], keys_is I h hk, ?_⟩
  rw [xs3_keys _ _ _ (by rw [hnk]; exact hkl) (by rw [hnk]; omega)]
  exact nd
/-- what is looked up -/
theorem look_rel {H : Hp} {k : T} (hk : keyOk true k = true) : ∀ {ks : List T} {kas : List Addr} {vs : List V} {us : List Value} {ts : List T}, ks.all (keyOk true) = true → kas.length = ks.length → Vals vs us → vs.length = ks.length → Rs X.w X.K ρ B H false vs ts [] →
    (lookT ks ts k = none ∧ atKey (xs3 (T.nks ks) kas us) k.nk = none) ∨ ∃ t p v, lookT ks ts k = some t ∧ atKey (xs3 (T.nks ks) kas us) k.nk = some p ∧ L2.RelV v p.2 ∧ R X.w X.K ρ B H false v t []
  | [], _, _, _, _, _, _, _, _, _ => .inl ⟨by simp [lookT], by simp [xs3, T.nks, atKey]⟩
  | _ :: _, [], _, _, _, _, h, _, _, _ => by simp at h
  | _ :: _, _ :: _, [], _, _, _, _, _, h, _ => by simp at h
  | z :: ks, a :: as, v :: vs, us, ts, ha, h1, hv, h2, hr => by
    cases hv with
    | cons r1 r2 =>
      rename_i u us'
      cases ts with
      | nil => cases hr
      | cons t ts' =>
        obtain ⟨q1, q2⟩ := hr.inv0
        obtain ⟨k1, k2⟩ := band (show (keyOk true z && ks.all (keyOk true)) = true from ha)
        obtain ⟨_, _, f1, p1, _⟩ := keyOk_t k1
        obtain ⟨_, _, f2, p2, _⟩ := keyOk_t hk
        have e := nk_eqv z k f1 p1 f2 p2
        have eL : lookT (z :: ks) (t :: ts') k = if z.eqv k = true then some t else lookT ks ts' k := by
          unfold lookT
          rw [List.zip_cons_cons, List.find?_cons]
          cases z.eqv k <;> rfl
        have eA : atKey ((z.nk, a, u) :: xs3 (T.nks ks) as us') k.nk = if z.nk = k.nk then some (a, u) else atKey (xs3 (T.nks ks) as us') k.nk := by
          unfold atKey
          rw [List.find?_cons]
          by_cases hq : z.nk = k.nk
          · rw [if_pos hq, decide_eq_true hq]; rfl
          · rw [if_neg hq, decide_eq_false hq]
        rw [eL]
        show (_ ∧ atKey ((z.nk, a, u) :: xs3 (T.nks ks) as us') k.nk = none) ∨ ∃ t p v, _ ∧ atKey ((z.nk, a, u) :: xs3 (T.nks ks) as us') k.nk = some p ∧ _
        rw [eA, e]
        by_cases hq : z.nk = k.nk
        · rw [if_pos hq, if_pos (decide_eq_true hq)]
          exact .inr ⟨t, _, v, rfl, rfl, r1, q1⟩
        · rw [if_neg hq, if_neg (by rw [decide_eq_false hq]; simp)]
          exact look_rel hk k2 (by simpa using h1) r2 (by simpa using h2) q2
end
end Fx
end

section
set_option Elab.async false
set_option linter.all false
set_option maxRecDepth 100000
/-! Fx9: dicts: looked into, stored to. -/
namespace Fx
open PySem PySem.Spec PyProof.Rows L2

def keyK : T → Option Key
  | .int i => some (.inl i)
  | .str s => some (.inr ⟨s.toArray⟩)
  | _ => none
theorem keyK_of {k : T} (h : keyOk false k = true) : ∃ q, keyK k = some q ∧ keyT q = k := by
  cases k with
  | int i => exact ⟨_, rfl, rfl⟩
  | str s => exact ⟨_, rfl, by simp [keyT]⟩
  | _ => cases h
theorem keyK_V {w : World} {K : PySem.W.Frag} {ρ : List Addr} {B : Addr → Prop} {H : Hp} {o : Bool} {v : V} {k : T} {A : List Addr} {q : Key} (h : R w K ρ B H o v k A) (e : keyK k = some q) : v = kV q := by
  cases h <;> first | (cases e; rfl) | cases e
theorem keyT_eqv (q p : Key) : (keyT q).eqv (keyT p) = decide (q = p) := by
  cases q with
  | inl i => cases p with
    | inl j =>
      show (i == j) = _
      by_cases e : i = j
      · simp [e]
      · rw [beq_eq_false_iff_ne.mpr e, decide_eq_false fun z => e (Sum.inl.inj z)]
    | inr y => rfl
  | inr x => cases p with
    | inl j => rfl
    | inr y =>
      show (x.cps.toList == y.cps.toList) = _
      by_cases e : x = y
      · simp [e]
      · rw [beq_eq_false_iff_ne.mpr fun z => e ?_, decide_eq_false fun z => e (Sum.inr.inj z)]
        cases x
        cases y
        simpa using z
section
variable {w : World} {K : PySem.W.Frag} {ρ : List Addr} {B : Addr → Prop} {H : Hp}
theorem lookS (q : Key) : ∀ {kvs : List (Key × V)} {ts : List T}, Rs w K ρ B H false (kvs.map (·.2)) ts [] →
    (lookT (kvs.map fun p => keyT p.1) ts (keyT q) = none ∧ valV kvs q = none) ∨ ∃ t v, lookT (kvs.map fun p => keyT p.1) ts (keyT q) = some t ∧ valV kvs q = some v ∧ R w K ρ B H false v t []
  | [], ts, h => .inl ⟨by simp [lookT], rfl⟩
  | p :: kvs, ts, h => by
    cases ts with
    | nil => cases h
    | cons t ts =>
      obtain ⟨h1, h2⟩ := h.inv0
      have eL : lookT ((p :: kvs).map fun p => keyT p.1) (t :: ts) (keyT q) = if (keyT p.1).eqv (keyT q) = true then some t else lookT (kvs.map fun p => keyT p.1) ts (keyT q) := by
        unfold lookT
        rw [List.map_cons, List.zip_cons_cons, List.find?_cons]
        cases (keyT p.1).eqv (keyT q) <;> rfl
      have eV : valV (p :: kvs) q = if p.1 = q then some p.2 else valV kvs q := by
        unfold valV
        rw [List.find?_cons]
        by_cases e : p.1 = q
        · rw [if_pos e, decide_eq_true e]; rfl
        · rw [if_neg e, decide_eq_false e]
      rw [eL, eV, keyT_eqv]
      by_cases e : p.1 = q
      · rw [if_pos e, if_pos (decide_eq_true e)]
        exact .inr ⟨t, p.2, rfl, rfl, h1⟩
      · rw [if_neg e, if_neg (by rw [decide_eq_false e]; simp)]
        exact lookS q h2
end
theorem Rs.lens {w : World} {K : PySem.W.Frag} {ρ : List Addr} {B : Addr → Prop} {H : Hp} {kas : List Addr} {ks : List T} {A : List Addr} (h : Rs w K ρ B H true (kas.map V.ref) ks A) : kas.length = ks.length := by
  have := h.length
  rwa [List.length_map] at this
section
variable {X : Cx} {pins : List (Addr × Obj)} {σ : L2.St} {H : Hp} {s : Shared} {ρ : List Addr} {B : Addr → Prop} {x y : V} {v u : Value} {n : Bool} {ks ts : List T} {k : T}
theorem room8 {A : Around} (hu : A.units + 100 < cLine) : ((nestedKind X.prog X.w)).room A.in1 := by
  show A.units + 1 + 8 < cLine
  omega
/-- d[k], k in d: what is told -/
theorem dic_get (hu : X.A.units + 100 < cLine) (I : L2.Inv X pins σ H s) (rx : L2.RelV x v) (ry : L2.RelV y u) (hx : R X.w X.K ρ B H false x (.dic n ks ts) []) (hy : R X.w X.K ρ B H false y k []) (hk : keyOk n k = true) {t : T} (hl : lookT ks ts k = some t)
    {Q : VK} (q : ∀ z, R X.w X.K ρ B H false z t [] → Q z H) : s.TypeIs v "dict" ∧ wpAny (model X.prog X.w) X.A (getItem v u) (EP X pins σ Q) X.xe s := by
  cases hx with
  | dicS h1 h2 h3 =>
    obtain ⟨p, e1, e2⟩ := keyK_of hk
    have ey := keyK_V hy e1
    subst ey
    rcases lookS p h3 with ⟨a1, _⟩ | ⟨t', z, a1, a2, a3⟩
    · rw [e2, hl] at a1; cases a1
    · rw [e2, hl] at a1
      cases a1
      cases rx
      have g := DGet.k (k := p) h2
      rw [a2] at g
      exact ⟨dict_typeIs I g, d_getItem (by omega) I g ry fun w' s' I' r' => ⟨z, H, I', r', q z a3⟩⟩
  | dicN h1 h2 h3 h4 hks h5 h6 =>
    obtain ⟨us, v1, v2, _, v3⟩ := dict_of I h2 h3 h5.lens h4 hks h5
    obtain ⟨_, rfl, f, p, d⟩ := keyOk_t hk
    obtain ⟨b, ws, rfl, _, _⟩ := hy.tup_inv
    cases rx
    cases ry
    rcases look_rel hk hks h5.lens v1 (by rw [← h3]; exact h5.lens) h6 with ⟨a1, _⟩ | ⟨t', pp, z, a1, a2, a3, a4⟩
    · rw [hl] at a1; cases a1
    · rw [hl] at a1
      cases a1
      exact ⟨v3.typeIs, wpAny_getItem_heap (room8 (A := X.A) hu) ⟨hy.nis I f p rfl, by rw [nk_depth _ f p]; exact d⟩ v3 a2 ⟨z, H, I.tok _, a3, q z a4⟩⟩
theorem dic_in (hu : X.A.units + 100 < cLine) (I : L2.Inv X pins σ H s) (rx : L2.RelV x v) (ry : L2.RelV y u) (hx : R X.w X.K ρ B H false x (.dic n ks ts) []) (hy : R X.w X.K ρ B H false y k []) (hk : keyOk n k = true)
    {Q : VK} (q : Q (.bl (lookT ks ts k).isSome) H) : wpAny (model X.prog X.w) X.A (compareOp .In u v) (EP X pins σ Q) X.xe s := by
  cases hx with
  | dicS h1 h2 h3 =>
    obtain ⟨p, e1, e2⟩ := keyK_of hk
    have ey := keyK_V hy e1
    subst ey
    cases rx
    refine d_in (o := valV _ p) (by omega) I (DGet.k h2) ry fun s' I' => ⟨.bl _, H, I', rfl, ?_⟩
    rcases lookS p h3 with ⟨a1, a2⟩ | ⟨t', z, a1, a2, a3⟩
    · rw [e2] at a1; rw [a1] at q; rw [a2]; exact q
    · rw [e2] at a1; rw [a1] at q; rw [a2]; exact q
  | dicN h1 h2 h3 h4 hks h5 h6 =>
    obtain ⟨us, v1, v2, _, v3⟩ := dict_of I h2 h3 h5.lens h4 hks h5
    obtain ⟨_, rfl, f, p, d⟩ := keyOk_t hk
    obtain ⟨b, ws, rfl, _, _⟩ := hy.tup_inv
    cases rx
    cases ry
    refine wpAny_in_heap (room8 (A := X.A) hu) ⟨hy.nis I f p rfl, by rw [nk_depth _ f p]; exact d⟩ v2 v3 ⟨.bl _, H, I.tok _, rfl, ?_⟩
    rcases look_rel hk hks h5.lens v1 (by rw [← h3]; exact h5.lens) h6 with ⟨a1, a2⟩ | ⟨t', pp, z, a1, a2, a3, a4⟩
    · rw [a1] at q; rw [a2]; exact q
    · rw [a1] at q; rw [a2]; exact q
theorem dic_notIn (hu : X.A.units + 100 < cLine) (I : L2.Inv X pins σ H s) (rx : L2.RelV x v) (ry : L2.RelV y u) (hx : R X.w X.K ρ B H false x (.dic n ks ts) []) (hy : R X.w X.K ρ B H false y k []) (hk : keyOk n k = true)
    {Q : VK} (q : Q (.bl (!(lookT ks ts k).isSome)) H) : wpAny (model X.prog X.w) X.A (compareOp .NotIn u v) (EP X pins σ Q) X.xe s := by
  cases hx with
  | dicS h1 h2 h3 =>
    obtain ⟨p, e1, e2⟩ := keyK_of hk
    have ey := keyK_V hy e1
    subst ey
    cases rx
    refine d_notIn (o := valV _ p) (by omega) I (DGet.k h2) ry fun s' I' => ⟨.bl _, H, I', rfl, ?_⟩
    rcases lookS p h3 with ⟨a1, a2⟩ | ⟨t', z, a1, a2, a3⟩
    · rw [e2] at a1; rw [a1] at q; rw [a2]; exact q
    · rw [e2] at a1; rw [a1] at q; rw [a2]; exact q
  | dicN h1 h2 h3 h4 hks h5 h6 =>
    obtain ⟨us, v1, v2, _, v3⟩ := dict_of I h2 h3 h5.lens h4 hks h5
    obtain ⟨_, rfl, f, p, d⟩ := keyOk_t hk
    obtain ⟨b, ws, rfl, _, _⟩ := hy.tup_inv
    cases rx
    cases ry
    refine wpAny_notIn_heap (room8 (A := X.A) hu) ⟨hy.nis I f p rfl, by rw [nk_depth _ f p]; exact d⟩ v2 v3 ⟨.bl _, H, I.tok _, rfl, ?_⟩
    rcases look_rel hk hks h5.lens v1 (by rw [← h3]; exact h5.lens) h6 with ⟨a1, a2⟩ | ⟨t', pp, z, a1, a2, a3, a4⟩
    · rw [a1] at q; rw [a2]; exact q
    · rw [a1] at q; rw [a2]; exact q
end

/-! ### stores -/
section
variable {w : World} {K : PySem.W.Frag} {ρ : List Addr} {B : Addr → Prop} {H : Hp}
theorem lookT_cons {z t k : T} {ks ts : List T} : lookT (z :: ks) (t :: ts) k = if z.eqv k = true then some t else lookT ks ts k := by
  unfold lookT
  rw [List.zip_cons_cons, List.find?_cons]
  cases z.eqv k <;> rfl
theorem anyS (q : Key) : ∀ {kvs : List (Key × V)} {ts : List T}, kvs.length = ts.length → (lookT (kvs.map fun p => keyT p.1) ts (keyT q)).isSome = kvs.any fun kv => decide (kv.1 = q)
  | [], ts, h => by simp [lookT]
  | p :: kvs, [], h => by simp at h
  | p :: kvs, t :: ts, h => by
    rw [List.map_cons, lookT_cons, keyT_eqv, List.any_cons]
    by_cases e : p.1 = q
    · rw [decide_eq_true e]; rfl
    · rw [decide_eq_false e]
      exact anyS q (by simpa using h)
theorem replS (q : Key) {z : V} {t : T} (hz : R w K ρ B H false z t []) : ∀ {kvs : List (Key × V)} {ts : List T}, Rs w K ρ B H false (kvs.map (·.2)) ts [] →
    Rs w K ρ B H false ((kvs.map fun kv => if kv.1 = q then (kv.1, z) else kv).map (·.2)) (((kvs.map fun p => keyT p.1).zip ts).map fun p => if p.1.eqv (keyT q) then t else p.2) []
  | [], ts, h => by
    cases ts with
    | nil => exact .nil
    | cons _ _ => cases h
  | p :: kvs, ts, h => by
    cases ts with
    | nil => cases h
    | cons u ts =>
      obtain ⟨h1, h2⟩ := h.inv0
      have ih := replS q hz h2
      simp only [List.map_cons, List.zip_cons_cons]
      refine .cons (A := []) (A' := []) ?_ ih
      rw [keyT_eqv]
      by_cases e : p.1 = q
      · rw [if_pos e, if_pos (by simpa using e)]; exact hz
      · rw [if_neg e, if_neg (by simpa using e)]; exact h1
theorem putS (q : Key) {z : V} {t : T} (hz : R w K ρ B H false z t []) {kvs : List (Key × V)} {ts : List T} (h : Rs w K ρ B H false (kvs.map (·.2)) ts []) :
    ((putK kvs q z).map fun p => keyT p.1) = (putT (kvs.map fun p => keyT p.1) ts (keyT q) t).1 ∧ Rs w K ρ B H false ((putK kvs q z).map (·.2)) (putT (kvs.map fun p => keyT p.1) ts (keyT q) t).2 [] := by
  have hl : kvs.length = ts.length := by
    have := h.length
    rwa [List.length_map] at this
  unfold putT putK
  rw [anyS q hl]
  by_cases e : (kvs.any fun kv => decide (kv.1 = q)) = true
  · rw [if_pos e, if_pos e]
    refine ⟨?_, replS q hz h⟩
    rw [List.map_map]
    refine List.map_congr_left fun p _ => ?_
    show keyT (if p.1 = q then (p.1, z) else p).1 = keyT p.1
    split <;> rfl
  · rw [if_neg e, if_neg e]
    refine ⟨by simp, ?_⟩
    rw [List.map_append]
    exact h.app (A' := []) (.cons (A := []) (A' := []) hz .nil)
theorem T.nks_len : ∀ l : List T, (T.nks l).length = l.length
  | [] => rfl
  | x :: r => by simp [T.nks, T.nks_len r]
theorem T.nks_app : ∀ l m : List T, T.nks (l ++ m) = T.nks l ++ T.nks m
  | [], _ => rfl
  | x :: r, m => by simp [T.nks, T.nks_app r m]
theorem anyN {k : T} (hk : keyOk true k = true) : ∀ {ks : List T} {kas : List Addr} {us : List Value} {ts : List T}, ks.all (keyOk true) = true → kas.length = ks.length → us.length = ks.length → ts.length = ks.length →
    (lookT ks ts k).isSome = (atKey (xs3 (T.nks ks) kas us) k.nk).isSome
  | [], _, _, _, _, _, _, _ => by simp [lookT, xs3, T.nks, atKey]
  | _ :: _, [], _, _, _, h, _, _ => by simp at h
  | _ :: _, _ :: _, [], _, _, _, h, _ => by simp at h
  | _ :: _, _ :: _, _ :: _, [], _, _, _, h => by simp at h
  | z :: ks, a :: as, u :: us, t :: ts, ha, h1, h2, h3 => by
    obtain ⟨k1, k2⟩ := band (show (keyOk true z && ks.all (keyOk true)) = true from ha)
    obtain ⟨_, _, f1, p1, _⟩ := keyOk_t k1
    obtain ⟨_, _, f2, p2, _⟩ := keyOk_t hk
    have eA : atKey (xs3 (T.nks (z :: ks)) (a :: as) (u :: us)) k.nk = if z.nk = k.nk then some (a, u) else atKey (xs3 (T.nks ks) as us) k.nk := by
      show atKey ((z.nk, a, u) :: xs3 (T.nks ks) as us) k.nk = _
      unfold atKey
      rw [List.find?_cons]
      by_cases hq : z.nk = k.nk
      · rw [if_pos hq, decide_eq_true hq]; rfl
      · rw [if_neg hq, decide_eq_false hq]
    rw [lookT_cons, eA, nk_eqv z k f1 p1 f2 p2]
    by_cases hq : z.nk = k.nk
    · rw [if_pos hq, if_pos (decide_eq_true hq)]; rfl
    · rw [if_neg hq, if_neg (by rw [decide_eq_false hq]; simp)]
      exact anyN hk k2 (by simpa using h1) (by simpa using h2) (by simpa using h3)
theorem replN {k : T} (hk : keyOk true k = true) {z : V} {r : Value} (rz : L2.RelV z r) {t : T} (hz : R w K ρ B H false z t []) : ∀ {ks : List T} {kas : List Addr} {vs : List V} {us : List Value} {ts : List T}, ks.all (keyOk true) = true → kas.length = ks.length → Vals vs us → vs.length = ks.length → Rs w K ρ B H false vs ts [] →
    ∃ vs' us', vs'.length = vs.length ∧ Vals vs' us' ∧ (xs3 (T.nks ks) kas us).map (putAt k.nk r) = xs3 (T.nks ks) kas us' ∧ Rs w K ρ B H false vs' ((ks.zip ts).map fun p => if p.1.eqv k then t else p.2) []
  | [], kas, vs, us, ts, _, h1, hv, h2, hr => by
    cases vs with
    | nil =>
      cases hv
      cases hr
      exact ⟨[], [], rfl, .nil, by simp [xs3, T.nks], .nil⟩
    | cons _ _ => simp at h2
  | _ :: _, [], _, _, _, _, h, _, _, _ => by simp at h
  | _ :: _, _ :: _, [], _, _, _, _, _, h, _ => by simp at h
  | y :: ks, a :: as, v :: vs, us, ts, ha, h1, hv, h2, hr => by
    cases hv with
    | cons r1 r2 =>
      rename_i u us'
      cases ts with
      | nil => cases hr
      | cons t0 ts' =>
        obtain ⟨q1, q2⟩ := hr.inv0
        obtain ⟨k1, k2⟩ := band (show (keyOk true y && ks.all (keyOk true)) = true from ha)
        obtain ⟨_, _, f1, p1, _⟩ := keyOk_t k1
        obtain ⟨_, _, f2, p2, _⟩ := keyOk_t hk
        obtain ⟨vs2, us2, e1, e2, e3, e4⟩ := replN hk rz hz k2 (by simpa using h1) r2 (by simpa using h2) q2
        have e := nk_eqv y k f1 p1 f2 p2
        have eP : (xs3 (T.nks (y :: ks)) (a :: as) (u :: us')).map (putAt k.nk r) = putAt k.nk r (y.nk, a, u) :: (xs3 (T.nks ks) as us').map (putAt k.nk r) := rfl
        rw [eP, e3, List.zip_cons_cons, List.map_cons]
        by_cases hq : y.nk = k.nk
        · refine ⟨z :: vs2, r :: us2, by simp [e1], .cons rz e2, ?_, .cons (A := []) (A' := []) ?_ e4⟩
          · unfold putAt
            rw [if_pos hq]
            rfl
          · rw [if_pos (by rw [e, decide_eq_true hq])]; exact hz
        · refine ⟨v :: vs2, u :: us2, by simp [e1], .cons r1 e2, ?_, .cons (A := []) (A' := []) ?_ e4⟩
          · unfold putAt
            rw [if_neg hq]
            rfl
          · rw [if_neg (by rw [e, decide_eq_false hq]; simp)]; exact q1
theorem xs3_app : ∀ {nks : List NestedKey} {kas : List Addr} {us : List Value} {k : NestedKey} {a : Addr} {u : Value}, kas.length = nks.length → us.length = nks.length → xs3 nks kas us ++ [(k, a, u)] = xs3 (nks ++ [k]) (kas ++ [a]) (us ++ [u])
  | [], [], [], _, _, _, _, _ => rfl
  | [], _ :: _, _, _, _, _, h, _ => by simp at h
  | [], [], _ :: _, _, _, _, _, h => by simp at h
  | _ :: _, [], _, _, _, _, h, _ => by simp at h
  | _ :: _, _ :: _, [], _, _, _, _, h => by simp at h
  | x :: nks, y :: kas, z :: us, k, a, u, h1, h2 => by
    have ih := xs3_app (nks := nks) (kas := kas) (us := us) (k := k) (a := a) (u := u) (by simpa using h1) (by simpa using h2)
    show (x, y, z) :: (xs3 nks kas us ++ [(k, a, u)]) = (x, y, z) :: xs3 (nks ++ [k]) (kas ++ [a]) (us ++ [u])
    rw [ih]
end

/-- a bad thing is changed -/
theorem Mv.updB {ρ : List Addr} {B : Addr → Prop} {H : Hp} {a : Addr} {o o' : HO} (hB : B a) (e : H a = some o) (n1 : ∀ xs, o ≠ .tup xs) (n2 : ∀ ob u, o ≠ .frz ob u) : Mv ρ ρ B B H (upd H a o') :=
  ⟨fun b u eb n => by rw [upd_ne fun z => n (by rw [z]; exact hB)]; exact eb, fun b xs eb => by rw [upd_ne (ne_of eb e fun z => n1 xs z.symm)]; exact eb, fun b ob u eb => by rw [upd_ne (ne_of eb e fun z => n2 ob u z.symm)]; exact eb, fun a z => .inl z, ⟨[], by simp⟩⟩
theorem ext_ok {X : Cx} {H : Hp} {h : Heap} {a : Addr} {nks : List NestedKey} {kas : List Addr} {vs : List V} (d : DictIs X.w a nks kas vs h) : ObjOk X.prog X.w H h a (.ext (DictIs X.w a nks kas vs)) := by
  refine ⟨d, ?_, ?_⟩
  · obtain ⟨_, _, o, es, ep, us, e, _⟩ := d
    exact ⟨o, e⟩
  · rintro h1 h2 ⟨d1, d2, o, es, ep, us, e, rest⟩ k
    exact ⟨d1, d2, o, es, ep, us, k o e, rest⟩
section
variable {X : Cx} {pins : List (Addr × Obj)} {σ : L2.St} {H : Hp} {s : Shared} {ρ : List Addr} {B : Addr → Prop} {y z : V} {u r : Value} {n : Bool} {ks ts : List T} {k t : T} {a : Addr}
theorem szL : sizeL = sizeLine := by decide
theorem dic_put (hu : X.A.units + 100 < cLine) (I : L2.Inv X pins σ H s) (ry : L2.RelV y u) (rz : L2.RelV z r) (ht : Top X.w X.K ρ B H a (.dic n ks ts)) (hB : B a) (hy : R X.w X.K ρ B H false y k []) (hz : R X.w X.K ρ B H false z t [])
    (hk : keyOk n k = true) (hl : ks.length < sizeL) {Q : Unit → Shared → Prop} {E : Value → Shared → Prop}
    (q : ∀ s' o', Mut (some o') → Top X.w X.K ρ B (upd H a o') a (.dic n (putT ks ts k t).1 (putT ks ts k t).2) → Mv ρ ρ B B H (upd H a o') → L2.Inv X pins σ (upd H a o') s' → Q () s') :
    wpAny (model X.prog X.w) X.A (setItem (.ref a) u r) Q E s := by
  generalize hd : T.dic n ks ts = d at ht
  cases ht with
  | lst h1 h2 => cases hd
  | dicS h1 h2 =>
    rename_i kvs ts'
    cases hd
    obtain ⟨p, e1, e2⟩ := keyK_of hk
    have ey := keyK_V hy e1
    subst ey
    obtain ⟨p1, p2⟩ := putS p hz h2
    have mv : Mv ρ ρ B B H (upd H a (.dK (putK kvs p z))) := Mv.updB hB h1 (fun _ z => nomatch z) fun _ _ z => nomatch z
    refine d_setItem (by omega) I (DPut.k h1 (by rw [← szL]; simpa using hl)) ry rz fun s' I' => q s' (.dK (putK kvs p z)) True.intro ?_ mv I'
    rw [e2] at p1 p2
    rw [← p1]
    exact .dicS upd_same (p2.mv mv (by simp))
  | dicN h1 h2 h3 h4 h5 h6 =>
    rename_i kas vs ks' ts'
    cases hd
    obtain ⟨us, v1, v2, v4, v3⟩ := dict_of I h1 h2 h5.lens h3 h4 h5
    obtain ⟨kl, rfl, f, p, d⟩ := keyOk_t hk
    obtain ⟨b, ws, rfl, hb1, hb2⟩ := hy.tup_inv
    cases ry
    have hkl := h5.lens
    have hvl := h6.length
    have hul := v1.length
    have key : ∀ (ks' : List T) (kas' : List Addr) (vs' : List V) (us' : List Value), storedH (xs3 (T.nks ks) kas us) (T.nk (.tup kl)) b r = xs3 (T.nks ks') kas' us' → Vals vs' us' → kas'.length = vs'.length → vs'.length ≤ sizeLine → (T.nks ks').Nodup → ks'.all (keyOk true) = true →
        Rs X.w X.K ρ B H true (kas'.map V.ref) ks' [] → ∀ ts', Rs X.w X.K ρ B H false vs' ts' [] → putT ks ts (.tup kl) t = (ks', ts') → wpAny (model X.prog X.w) X.A (setItem (.ref a) (.ref b) r) Q E s := by
      intro ks' kas' vs' us' eS hv' hl' hz' nd' hk' hr' ts' hts eP
      have mv : Mv ρ ρ B B H (upd H a (.ext (DictIs X.w a (T.nks ks') kas' vs'))) := Mv.updB hB h1 (fun _ z => nomatch z) fun _ _ z => nomatch z
      have hul' := hv'.length
      refine wpAny_setItem_heap (hsz := by
        have := xs3_len (T.nks ks) kas us
        omega) (room8 (A := X.A) hu) ⟨hy.nis I f p rfl, by rw [nk_depth _ f p]; exact d⟩ v3 fun h' dd' hs => q _ (.ext (DictIs X.w a (T.nks ks') kas' vs')) True.intro ?_ mv ?_
      · rw [eP]
        exact .dicN upd_same hl' nd' hk' (hr'.mv mv (by simp)) (hts.mv mv (by simp))
      · obtain ⟨ob, es, ep, x1, x2, x3, x4, x5, x6⟩ := dd'
        refine d_write I (by rw [h1]; exact True.intro) hs ⟨ob, x1⟩ (ext_ok ⟨v2, hz', ob, es, ep, us', x1, x2, x3, hv', ?_⟩)
        rw [x4, eS, ents_eq (P := X.prog)]
    have hany := anyN hk h4 (ts := ts) (us := us) hkl (by omega) (by omega)
    cases hat : atKey (xs3 (T.nks ks) kas us) (T.nk (.tup kl)) with
    | some pp =>
      rw [hat] at hany
      obtain ⟨vs2, us2, e1, e2, e3, e4⟩ := replN hk rz hz h4 hkl v1 (by omega) h6
      refine key ks kas vs2 us2 ?_ e2 (by omega) (by omega) h3 h4 h5 _ e4 ?_
      · rw [storedH_old hat, e3]
      · unfold putT
        rw [if_pos (show (lookT ks ts (T.tup kl)).isSome = true from hany)]
    | none =>
      rw [hat] at hany
      refine key (ks ++ [.tup kl]) (kas ++ [b]) (vs ++ [z]) (us ++ [r]) ?_ (v1.append (.cons rz .nil)) (by simp [h2]) ?_ ?_ ?_ ?_ (ts ++ [t]) ?_ ?_
      · rw [storedH_new hat, xs3_app (by rw [T.nks_len]; exact hkl) (by rw [T.nks_len]; omega), T.nks_app]
        rfl
      · rw [List.length_append, List.length_singleton]
        rw [← szL]
        omega
      · rw [T.nks_app]
        refine List.nodup_append.mpr ⟨h3, by simp [T.nks], fun x hx y hy' e => ?_⟩
        have e' : y = T.nk (.tup kl) := by simpa [T.nks] using hy'
        subst e
        subst e'
        have hk' := xs3_keys (T.nks ks) kas us (by rw [T.nks_len]; exact hkl) (by rw [T.nks_len]; omega)
        rw [← hk'] at hx
        obtain ⟨w', hw, hw2⟩ := List.mem_map.mp hx
        unfold atKey at hat
        rw [Option.map_eq_none_iff, List.find?_eq_none] at hat
        exact hat w' hw (decide_eq_true hw2)
      · rw [List.all_append, h4]
        simpa using hk
      · rw [List.map_append]
        exact h5.app (A' := []) (.cons (A := []) (A' := []) (hy.flat f).1 .nil)
      · exact h6.app (A' := []) (.cons (A := []) (A' := []) hz .nil)
      · unfold putT
        rw [hany]
        rfl
end
end Fx
end

section
set_option Elab.async false
set_option linter.all false
set_option maxRecDepth 100000
/-! Fx10: comparisons, tests, choices. -/
namespace Fx
open PySem PySem.Spec PyProof.Rows L2
variable {D : Dec} {F : Call}

section
variable {X : Cx}
theorem rCmp.of {X : Cx} {f f' : T → T → Option Bool} {x y : V} {H : Hp} {Q : VK} (h : rCmp X f x y H Q) (e : ∀ a b c, f a b = some c → f' a b = some c) : rCmp X f' x y H Q := by
  obtain ⟨a, b, ρ, B, A, A', c, r1, r2, e1, q⟩ := h
  exact ⟨a, b, ρ, B, A, A', c, r1, r2, e _ _ _ e1, q⟩
theorem op_in1 (hu : X.A.units + 100 < cLine) : OpR X (compareOp .In) (rCmp X (cmpV .In)) := by
  intro pins s σ H x y v u Q I rx ry h
  obtain ⟨a, b, ρ, B, A, A', c, r1, r2, e1, q⟩ := id h
  have e1' : inV a b = some c := e1
  cases b with
  | dic n ks ts =>
    simp only [inV] at e1'
    split at e1'
    · rename_i hk
      cases e1'
      have := r1.nil
      subst this
      have := r2.nil
      subst this
      exact dic_in hu I ry rx r2 r1 hk q
    · cases e1'
  | _ => exact (op_inT0 hu).1 pins s σ H x y v u Q I rx ry ⟨a, _, ρ, B, A, A', c, r1, r2, e1', q⟩
theorem op_notIn1 (hu : X.A.units + 100 < cLine) : OpR X (compareOp .NotIn) (rCmp X (cmpV .NotIn)) := by
  intro pins s σ H x y v u Q I rx ry h
  obtain ⟨a, b, ρ, B, A, A', c, r1, r2, e1, q⟩ := id h
  have e1' : (inV a b).map not = some c := e1
  cases b with
  | dic n ks ts =>
    simp only [inV] at e1'
    split at e1'
    · rename_i hk
      cases e1'
      have := r1.nil
      subst this
      have := r2.nil
      subst this
      exact dic_notIn hu I ry rx r2 r1 hk q
    · cases e1'
  | _ => exact (op_inT0 hu).2 pins s σ H x y v u Q I rx ry ⟨a, _, ρ, B, A, A', c, r1, r2, e1', q⟩
theorem isB_eq {w : World} {K : PySem.W.Frag} {ρ : List Addr} {B : Addr → Prop} {H : Hp} {o : Bool} {x : V} {a : T} {A : List Addr} {v : Value} (r : R w K ρ B H o x a A) (rx : L2.RelV x v) (b : Bool) :
    plainIs v (.bool b) = true ∧ (v == .bool b) = isBlT b a := by
  cases r with
  | bl d =>
    cases rx
    refine ⟨rfl, ?_⟩
    show (Value.bool d == Value.bool b) = (d == b)
    by_cases e : d = b
    · subst e; simp
    · rw [beq_eq_false_iff_ne.mpr e]
      exact beq_eq_false_iff_ne.mpr fun z => e (Value.bool.inj z)
  | non => cases rx; exact ⟨rfl, beq_eq_false_iff_ne.mpr fun z => nomatch z⟩
  | int i => obtain ⟨t, rfl⟩ := rx; exact ⟨rfl, beq_eq_false_iff_ne.mpr fun z => nomatch z⟩
  | str z hz => obtain ⟨t, rfl⟩ := rx; exact ⟨rfl, beq_eq_false_iff_ne.mpr fun z => nomatch z⟩
  | _ => cases rx; exact ⟨rfl, beq_eq_false_iff_ne.mpr fun z => nomatch z⟩
theorem isN_eq {w : World} {K : PySem.W.Frag} {ρ : List Addr} {B : Addr → Prop} {H : Hp} {o : Bool} {x : V} {a : T} {A : List Addr} (r : R w K ρ B H o x a A) : decide (x = V.non) = isNonT a := by
  cases r <;> first | rfl | (exact decide_eq_false fun z => nomatch z)
theorem op_is1 : OpR X (compareOp .Is) (rCmp X (cmpV .Is)) := by
  intro pins s σ H x y v u Q I rx ry h
  obtain ⟨a, b, ρ, B, A, A', c, r1, r2, e1, q⟩ := h
  have e1' : isV a b = some c := e1
  cases r2 with
  | non =>
    simp only [isV] at e1'
    cases e1'
    exact op_isN pins s σ H x _ v u Q I rx ry ⟨rfl, by rw [isN_eq r1]; exact q⟩
  | bl d =>
    simp only [isV] at e1'
    cases e1'
    cases ry
    obtain ⟨p1, p2⟩ := isB_eq r1 rx d
    exact wpAny_is_plain p1 (by rw [p2]; exact ⟨.bl _, H, I, rfl, q⟩)
  | _ => simp [isV] at e1'
theorem op_isNot1 : OpR X (compareOp .IsNot) (rCmp X (cmpV .IsNot)) := by
  intro pins s σ H x y v u Q I rx ry h
  obtain ⟨a, b, ρ, B, A, A', c, r1, r2, e1, q⟩ := h
  have e1' : (isV a b).map not = some c := e1
  cases r2 with
  | non =>
    simp only [isV] at e1'
    cases e1'
    exact op_notN pins s σ H x _ v u Q I rx ry ⟨rfl, by rw [isN_eq r1]; exact q⟩
  | bl d =>
    simp only [isV] at e1'
    cases e1'
    cases ry
    obtain ⟨p1, p2⟩ := isB_eq r1 rx d
    exact wpAny_isNot_plain p1 (by rw [p2]; exact ⟨.bl _, H, I, rfl, q⟩)
  | _ => simp [isV] at e1'
theorem op_ord1 {o : CmpOp} (ho : o = .Lt ∨ o = .LtE ∨ o = .Gt ∨ o = .GtE) : OpR X (compareOp o) (rCmp X (cmpV o)) := by
  intro pins s σ H x y v u Q I rx ry h
  obtain ⟨a, b, ρ, B, A, A', c, r1, r2, e1, q⟩ := h
  have key : (∃ i j, a = .int i ∧ b = .int j ∧ ordV o i j = some c) ∨ ∃ z z', a = .str z ∧ b = .str z' := by
    rcases ho with rfl | rfl | rfl | rfl <;>
    · unfold cmpV at e1
      simp only at e1
      split at e1
      · exact .inl ⟨_, _, rfl, rfl, e1⟩
      · exact .inr ⟨_, _, rfl, rfl⟩
      · cases e1
  rcases key with ⟨i, j, rfl, rfl, e⟩ | ⟨z, z', rfl, rfl⟩
  · have h1 := r1.int_inv
    have h2 := r2.int_inv
    rcases ho with rfl | rfl | rfl | rfl <;> cases e
    · exact op_lt pins s σ H x y v u Q I rx ry ⟨i, j, h1, h2, q⟩
    · exact op_le pins s σ H x y v u Q I rx ry ⟨i, j, h1, h2, q⟩
    · exact op_gt pins s σ H x y v u Q I rx ry ⟨i, j, h1, h2, q⟩
    · exact op_ge pins s σ H x y v u Q I rx ry ⟨i, j, h1, h2, q⟩
  · have h1 := r1.str_inv.1
    have h2 := r2.str_inv.1
    rcases ho with rfl | rfl | rfl | rfl <;> cases e1
    · exact op_lt_str pins s σ H x y v u Q I rx ry ⟨_, _, h1, h2, by simpa using q⟩
    · exact op_le_str pins s σ H x y v u Q I rx ry ⟨_, _, h1, h2, by simpa using q⟩
    · exact op_gt_str pins s σ H x y v u Q I rx ry ⟨_, _, h1, h2, by simpa using q⟩
    · exact op_ge_str pins s σ H x y v u Q I rx ry ⟨_, _, h1, h2, by simpa using q⟩
theorem op_cmp1 (hu : X.A.units + 100 < cLine) : ∀ o : CmpOp, OpR X (compareOp o) (rCmp X (cmpV o))
  | .Eq => op_eqT hu
  | .NotEq => op_neT hu
  | .In => op_in1 hu
  | .NotIn => op_notIn1 hu
  | .Is => op_is1
  | .IsNot => op_isNot1
  | .Lt => op_ord1 (.inl rfl)
  | .LtE => op_ord1 (.inr (.inl rfl))
  | .Gt => op_ord1 (.inr (.inr (.inl rfl)))
  | .GtE => op_ord1 (.inr (.inr (.inr rfl)))
end

/-! ### expressions -/
theorem wE.getT {X : Cx} {a : Expr} {σ : L2.St} {H : Hp} {Q : VK} (h : wE X a σ H Q) : wE X a σ H Q := h
theorem PostL.cmp {X : Cx} {ρ : List Addr} {B : Addr → Prop} {H H' : Hp} {x y : T × Nat} {v u : V} {g' : List T} {f : T → T → Option Bool} {c : Bool} {Q : VK} (q : PostL X.w X.K ρ B H [x, y] g' [v, u] H') (e : f x.1 y.1 = some c) (k : Q (.bl c) H') : rCmp X f v u H' Q := by
  obtain ⟨r, A, kp, hr, cl, h, hA⟩ := q
  exact ⟨x.1, y.1, _, _, _, _, c, h.r1, h.r2, e, k⟩
theorem se_cmp {o : CmpOp} {a b : E} (ha : SE D F a) (hb : SE D F b) : SE D F (.cmp o a b) := by
  intro X G e σ ρ B H g g' env t fl S hc he
  unfold evalE at he
  obtain ⟨x, g1, ea, he⟩ := Out.bind_eq he
  obtain ⟨y, g2, eb, he⟩ := Out.bind_eq he
  obtain ⟨hf, rfl⟩ := Out.of_eq he
  obtain ⟨c, hcv, hf⟩ := Option.map_eq_some_iff.mp hf
  cases hf
  unfold chkE at hc
  split at hc
  · rename_i a' o' b' pos
    obtain ⟨c12, cb⟩ := band hc
    obtain ⟨co, ca⟩ := band c12
    have eo : o = o' := of_decide_eq_true co
    subst eo
    exact wE.of (pe_cmpR (op_cmp1 G.un o) (wE.pe X a') (wE.pe X b') (marks_ok (okE_chk cb))) (two ha hb G S ca cb ea eb fun v u H' q z => q.cmp hcv (q.base.bl c))
  · cases hc
theorem st_cmp {o : CmpOp} {a b : E} (ha : SE D F a) (hb : SE D F b) : STt D F (.cmp o a b) := by
  intro X G e σ ρ B H g g' env t fl bb S hc he ht
  unfold evalE at he
  obtain ⟨x, g1, ea, he⟩ := Out.bind_eq he
  obtain ⟨y, g2, eb, he⟩ := Out.bind_eq he
  obtain ⟨hf, rfl⟩ := Out.of_eq he
  obtain ⟨c, hcv, hf⟩ := Option.map_eq_some_iff.mp hf
  cases hf
  cases ht
  unfold chkE at hc
  split at hc
  · rename_i a' o' b' pos
    obtain ⟨c12, cb⟩ := band hc
    obtain ⟨co, ca⟩ := band c12
    have eo : o = o' := of_decide_eq_true co
    subst eo
    exact wT.of (pt_cmpR (op_cmp1 G.un o) (wE.pe X a') (wE.pe X b') (marks_ok (okE_chk cb))) (two ha hb G S ca cb ea eb fun v u H' q z => q.cmp hcv ⟨bb, rfl, rfl, q.base⟩)
  · cases hc
theorem lastMarks_ok {o o' : CmpOp} {b c : Expr} (h : okE c = true) : lastMarks [o, o'] [b, c] = false := marks_ok (o := o') h
/-- a chain's reading -/
theorem chain_core {X : Cx} {o o' : CmpOp} {a b c : E} {a' b' c' : Expr} {σ : L2.St} {ρ : List Addr} {B : Addr → Prop} {H : Hp} {g g1 g2 g' : List T} {env : Env} {x y : T × Nat} {bb : Bool} {Q : VK} (ha : SE D F a) (hb : SE D F b) (hc : SE D F c) (G : Gd X D F) (S : Sit X.w X.K ρ B H g env σ)
    (ca : chkE D X.N X.env.scope a a' = true) (cb : chkE D X.N X.env.scope b b' = true) (cc : chkE D X.N X.env.scope c c' = true) (ea : evalE F env a g = .ok x g1) (eb : evalE F env b g1 = .ok y g2)
    (he : (cmpV o x.1 y.1 = some true ∧ ∃ z, evalE F env c g2 = .ok z g' ∧ cmpV o' y.1 z.1 = some bb) ∨ (cmpV o x.1 y.1 = some false ∧ bb = false ∧ g' = g2))
    (k : ∀ H', Base X.w X.K ρ H g' H' → Q (.bl bb) H') : tChain (rCmp X (cmpV o)) (rCmp X (cmpV o')) (wE X a') (wE X b') (wE X c') σ H Q := by
  refine (ha X G a' σ ρ B H g g1 env x.1 x.2 S ca ea).mono fun v H1 q => ?_
  obtain ⟨r, A, kp, hr, c1, h, hA⟩ := q
  have S1 := S.on kp hr c1 hA h.there
  refine (hb X G b' σ _ _ H1 g1 g2 env y.1 y.2 S1 cb eb).mono fun u H2 q2 => ?_
  have q12 := postL_cons S kp hr c1 h hA q2.toL
  rcases he with ⟨e1, z, ec, e2⟩ | ⟨e1, rfl, rfl⟩
  · refine q12.cmp e1 ⟨true, rfl, ?_⟩
    rw [if_pos rfl]
    obtain ⟨r2, A2, kp2, hr2, c2, h2, hA2⟩ := q2
    have S2 := S1.on kp2 hr2 c2 hA2 h2.there
    refine (hc X G c' σ _ _ H2 g2 g' env z.1 z.2 S2 cc ec).mono fun t H3 q3 => ?_
    have q23 := postL_cons S1 kp2 hr2 c2 h2 hA2 q3.toL
    have q123 := postL_cons S kp hr c1 h hA q23
    exact q23.cmp e2 (k H3 q123.base)
  · refine q12.cmp e1 ⟨false, rfl, ?_⟩
    rw [if_neg Bool.false_ne_true]
    exact k H2 q12.base
theorem chain_inv {o o' : CmpOp} {a b c : E} {env : Env} {g g' : List T} {t : T} {fl : Nat} (he : evalE F env (.chain o o' a b c) g = .ok (t, fl) g') : ∃ x g1 y g2 bb, evalE F env a g = .ok x g1 ∧ evalE F env b g1 = .ok y g2 ∧ t = .bl bb ∧ fl = 2 ∧
    ((cmpV o x.1 y.1 = some true ∧ ∃ z, evalE F env c g2 = .ok z g' ∧ cmpV o' y.1 z.1 = some bb) ∨ (cmpV o x.1 y.1 = some false ∧ bb = false ∧ g' = g2)) := by
  unfold evalE at he
  obtain ⟨x, g1, ea, he⟩ := Out.bind_eq he
  obtain ⟨y, g2, eb, he⟩ := Out.bind_eq he
  split at he
  · rename_i e1
    obtain ⟨z, g3, ec, he⟩ := Out.bind_eq he
    obtain ⟨hf, rfl⟩ := Out.of_eq he
    obtain ⟨c, hcv, hf⟩ := Option.map_eq_some_iff.mp hf
    cases hf
    exact ⟨x, g1, y, g2, c, ea, eb, rfl, rfl, .inl ⟨e1, z, ec, hcv⟩⟩
  · rename_i e1
    cases he
    exact ⟨x, g1, y, _, false, ea, eb, rfl, rfl, .inr ⟨e1, rfl, rfl⟩⟩
  · cases he
theorem se_chain {o o' : CmpOp} {a b c : E} (ha : SE D F a) (hb : SE D F b) (hc : SE D F c) : SE D F (.chain o o' a b c) := by
  intro X G e σ ρ B H g g' env t fl S hch he
  obtain ⟨x, g1, y, g2, bb, ea, eb, rfl, rfl, e⟩ := chain_inv he
  unfold chkE at hch
  split at hch
  · rename_i a' p p' b' c' pos
    obtain ⟨c1234, cc⟩ := band hch
    obtain ⟨c123, cb⟩ := band c1234
    obtain ⟨c12, ca⟩ := band c123
    obtain ⟨e1, e2⟩ := band c12
    have e1 : o = p := of_decide_eq_true e1
    have e2 : o' = p' := of_decide_eq_true e2
    subst e1
    subst e2
    exact wE.of (pe_chain (op_cmp1 G.un o) (op_cmp1 G.un o') (wE.pe X a') (wE.pe X b') (wE.pe X c') (lastMarks_ok (okE_chk cc))) (chain_core ha hb hc G S ca cb cc ea eb e fun H' b => b.bl bb)
  · cases hch
theorem st_chain {o o' : CmpOp} {a b c : E} (ha : SE D F a) (hb : SE D F b) (hc : SE D F c) : STt D F (.chain o o' a b c) := by
  intro X G e σ ρ B H g g' env t fl bb' S hch he ht
  obtain ⟨x, g1, y, g2, bb, ea, eb, rfl, rfl, e⟩ := chain_inv he
  cases ht
  unfold chkE at hch
  split at hch
  · rename_i a' p p' b' c' pos
    obtain ⟨c1234, cc⟩ := band hch
    obtain ⟨c123, cb⟩ := band c1234
    obtain ⟨c12, ca⟩ := band c123
    obtain ⟨e1, e2⟩ := band c12
    have e1 : o = p := of_decide_eq_true e1
    have e2 : o' = p' := of_decide_eq_true e2
    subst e1
    subst e2
    exact wT.of (pt_chain (op_cmp1 G.un o) (op_cmp1 G.un o') (wE.pe X a') (wE.pe X b') (wE.pe X c') (lastMarks_ok (okE_chk cc))) (chain_core ha hb hc G S ca cb cc ea eb e fun H' b => ⟨_, rfl, rfl, b⟩)
  · cases hch
end Fx
end

section
set_option Elab.async false
set_option linter.all false
set_option maxRecDepth 100000
/-! Fx11: truth, choices, subscripts, slices. -/
namespace Fx
open PySem PySem.Spec PyProof.Rows L2
variable {D : Dec} {F : Call}

/-! ### truth -/
theorem tru_of {w : World} {K : PySem.W.Frag} {ρ : List Addr} {B : Addr → Prop} {H : Hp} {v : V} {t : T} {A : List Addr} {b : Bool} (r : R w K ρ B H false v t A) (e : t.truth = some b) : TruV K v H b := by
  cases r with
  | non => cases e; rfl
  | bl c => cases e; rfl
  | int i => cases e; rfl
  | str s h =>
    simp only [T.truth] at e
    split at e
    · rename_i hz
      cases e
      refine ⟨by rw [str_len]; exact hz, ?_⟩
      rw [str_len]
      cases s with
      | nil => rfl
      | cons c r =>
        symm
        show ((((c :: r).length : Nat) : Int) != 0) = true
        rw [bne_iff_ne, List.length_cons]
        omega
    · cases e
  | tup h1 h2 =>
    cases e
    refine .inr (.inl ⟨_, h1, ?_⟩)
    cases h2 <;> rfl
  | lst0 h1 h2 h3 =>
    cases e
    refine .inl ⟨_, SqL.of h2, ?_⟩
    generalize hA : ([] : List Addr) = A' at h3
    cases h3 <;> rfl
  | _ => cases e
def special : E → Bool
  | .not _ => true
  | .and _ _ => true
  | .or _ _ => true
  | .cmp _ _ _ => true
  | .chain _ _ _ _ _ => true
  | .ite _ _ _ => true
  | _ => false
def plainT : Expr → Bool
  | .UnaryOp .Not _ _ => false
  | .BoolOp .. => false
  | .IfExp .. => false
  | .Compare .. => false
  | _ => true
theorem plainT_chk {N : List Str} {sc : Scope} {c : E} {e : Expr} (h : chkE D N sc c e = true) (hs : special c = false) : plainT e = true := by
  cases e with
  | UnaryOp op a p =>
    cases op with
    | Not => cases c <;> first | (cases hs; done) | (unfold chkE at h; cases h)
    | _ => rfl
  | BoolOp _ _ _ => cases c <;> first | (cases hs; done) | (unfold chkE at h; cases h)
  | IfExp _ _ _ _ => cases c <;> first | (cases hs; done) | (unfold chkE at h; cases h)
  | Compare _ _ _ _ => cases c <;> first | (cases hs; done) | (unfold chkE at h; cases h)
  | _ => rfl
theorem st_gen {c : E} (hc : SE D F c) (hs : special c = false) : STt D F c := by
  intro X G e σ ρ B H g g' env t fl b S hch he ht
  have hp := plainT_chk hch hs
  have hT : ∀ whole : Sem Value, PySem.isTrue e X.env whole = (do let v ← whole; standAt e.pos; holding [v] (truthy v)) := fun whole => by
    cases e with
    | UnaryOp op a p => cases op <;> first | rfl | cases hp
    | _ => first | rfl | cases hp
  refine wT.of (pt_truth (wE.pe X e) hT) ((hc X G e σ ρ B H g g' env t fl S hch he).mono fun v H' q => ?_)
  have bs := q.base
  obtain ⟨r, A, kp, hr, c1, h, hA⟩ := q
  exact ⟨b, tru_of h.sh ht, rfl, bs⟩

/-! ### not, and, or, the choice -/
theorem se_not {a : E} (ha : SE D F a) : SE D F (.not a) := by
  intro X G e σ ρ B H g g' env t fl S hc he
  unfold evalE at he
  obtain ⟨x, g1, ea, he⟩ := Out.bind_eq he
  obtain ⟨hf, rfl⟩ := Out.of_eq he
  obtain ⟨c, hcv, hf⟩ := Option.map_eq_some_iff.mp hf
  cases hf
  unfold chkE at hc
  split at hc
  · rename_i a' pos
    refine wE.of (pe_notT (wE.pe X a')) ((ha X G a' σ ρ B H g _ env x.1 x.2 S hc ea).mono fun v H' q => ?_)
    have bs := q.base
    obtain ⟨r, A, kp, hr, c1, h, hA⟩ := q
    exact ⟨c, tru_of h.sh hcv, bs.bl _⟩
  · cases hc
theorem st_not {a : E} (ha : STt D F a) : STt D F (.not a) := by
  intro X G e σ ρ B H g g' env t fl b S hc he ht
  unfold evalE at he
  obtain ⟨x, g1, ea, he⟩ := Out.bind_eq he
  obtain ⟨hf, rfl⟩ := Out.of_eq he
  obtain ⟨c, hcv, hf⟩ := Option.map_eq_some_iff.mp hf
  cases hf
  cases ht
  unfold chkE at hc
  split at hc
  · rename_i a' pos
    refine wT.of (pt_not (wT.pt X a')) ((ha X G a' σ ρ B H g _ env x.1 x.2 c S hc ea hcv).mono fun b' H' q => ⟨?_, q.2⟩)
    rw [q.1]
  · cases hc
theorem pe_boolOne {X : Cx} {op : BoolOp} {b : Expr} {pos : Pos} : PE X (.BoolOp op [b] pos) (wE X b) := pe_one (wE.pe X b)
theorem chk_and {N : List Str} {sc : Scope} {a b : E} {e : Expr} (h : chkE D N sc (.and a b) e = true) : ∃ a' b' r pos, e = .BoolOp .And (a' :: b' :: r) pos ∧ chkE D N sc a a' = true ∧ ((r = [] ∧ chkE D N sc b b' = true) ∨ (r ≠ [] ∧ chkE D N sc b (.BoolOp .And (b' :: r) pos) = true)) := by
  unfold chkE at h
  split at h
  · rename_i a' b' r pos
    obtain ⟨c1, c2⟩ := band h
    refine ⟨a', b', r, pos, rfl, c1, ?_⟩
    cases r with
    | nil => exact .inl ⟨rfl, c2⟩
    | cons x xs => exact .inr ⟨by simp, c2⟩
  · cases h
theorem chk_or {N : List Str} {sc : Scope} {a b : E} {e : Expr} (h : chkE D N sc (.or a b) e = true) : ∃ a' b' r pos, e = .BoolOp .Or (a' :: b' :: r) pos ∧ chkE D N sc a a' = true ∧ ((r = [] ∧ chkE D N sc b b' = true) ∨ (r ≠ [] ∧ chkE D N sc b (.BoolOp .Or (b' :: r) pos) = true)) := by
  unfold chkE at h
  split at h
  · rename_i a' b' r pos
    obtain ⟨c1, c2⟩ := band h
    refine ⟨a', b', r, pos, rfl, c1, ?_⟩
    cases r with
    | nil => exact .inl ⟨rfl, c2⟩
    | cons x xs => exact .inr ⟨by simp, c2⟩
  · cases h
/-- the value that is kept, where another stands behind it -/
theorem Post.on {w : World} {K : PySem.W.Frag} {ρ r : List Addr} {B : Addr → Prop} {H H1 : Hp} {g g1 g' : List T} {env : Env} {σ : L2.St} {A : List Addr} {t : T} {fl : Nat} {v : V} {H' : Hp} (S : Sit w K ρ B H g env σ)
    (k : Keep ρ H H1) (hr : ∀ a ∈ r, H a = none) (c : Cells w K (ρ ++ r) H1 g1) (hA : ∀ a ∈ A, H a = none) (hA' : ∀ a ∈ A, H1 a ≠ none) (q : Post w K (ρ ++ r) (fun a => B a ∨ a ∈ r ∨ a ∈ A) H1 t fl g' v H') : Post w K ρ B H t fl g' v H' := by
  have S1 := S.on k hr c hA hA'
  obtain ⟨r2, A2, k2, hr2, c2, h2, hA2⟩ := q
  have old : ∀ a, H1 a = none → H a = none := fun a e => by
    cases q : H a with
    | none => rfl
    | some o =>
      by_cases hc : a ∈ ρ
      · exact absurd e (S1.badT a (.inl (S.bad a hc)))
      · rw [k a o q hc] at e; cases e
  refine ⟨r ++ r2, A2, fun a o e n => k2 a o (k a o e n) fun z => ?_, fun a ha => ?_, by rw [← List.append_assoc]; exact c2, ?_, fun a ha => old a (hA2 a ha)⟩
  · rcases List.mem_append.mp z with z | z
    · exact n z
    · rw [hr a z] at e; cases e
  · rcases List.mem_append.mp ha with ha | ha
    · exact hr a ha
    · exact old a (hr2 a ha)
  · rw [← List.append_assoc]
    refine h2.weakB fun a ha => ?_
    rcases ha with ha | ha
    · exact .inl (.inl ha)
    · rcases List.mem_append.mp ha with ha | ha
      · exact .inl (.inr (.inl ha))
      · exact .inr ha
theorem Base.on {w : World} {K : PySem.W.Frag} {ρ r : List Addr} {B : Addr → Prop} {H H1 : Hp} {g g1 g' : List T} {env : Env} {σ : L2.St} {A : List Addr} {H' : Hp} (S : Sit w K ρ B H g env σ)
    (k : Keep ρ H H1) (hr : ∀ a ∈ r, H a = none) (c : Cells w K (ρ ++ r) H1 g1) (hA : ∀ a ∈ A, H a = none) (hA' : ∀ a ∈ A, H1 a ≠ none) (q : Base w K (ρ ++ r) H1 g' H') : Base w K ρ H g' H' := by
  have S1 := S.on k hr c hA hA'
  exact (Post.on (v := .non) (t := .non) (fl := 2) S k hr c hA hA' (Base.post (B := fun a => B a ∨ a ∈ r ∨ a ∈ A) q fun _ _ => .non)).base
theorem se_and {a b : E} (ha : SE D F a) (hb : SE D F b) : SE D F (.and a b) := by
  intro X G e σ ρ B H g g' env t fl S hc he
  obtain ⟨a', b', r', pos, rfl, ca, cb⟩ := chk_and hc
  unfold evalE at he
  obtain ⟨x, g1, ea, he⟩ := Out.bind_eq he
  have tail : ∀ (b'' : Expr), chkE D X.N X.env.scope b b'' = true → PE X (.BoolOp .And (b' :: r') pos) (wE X b'') → wE X (.BoolOp .And (a' :: b' :: r') pos) σ H (Post X.w X.K ρ B H t fl g') := by
    intro b'' cb pb
    refine wE.of (pe_andT (wE.pe X a') pb) ((ha X G a' σ ρ B H g g1 env x.1 x.2 S ca ea).mono fun v H1 q => ?_)
    obtain ⟨r, A, kp, hr, c1, h, hA⟩ := id q
    split at he
    · rename_i e1
      refine ⟨true, tru_of h.sh e1, ?_⟩
      rw [if_pos rfl]
      exact (hb X G b'' σ _ _ H1 g1 g' env t fl (S.on kp hr c1 hA h.there) cb he).mono fun u H2 q2 => q2.on S kp hr c1 hA h.there
    · rename_i e1
      cases he
      refine ⟨false, tru_of h.sh e1, ?_⟩
      rw [if_neg Bool.false_ne_true]
      exact q
    · cases he
  rcases cb with ⟨rfl, cb⟩ | ⟨_, cb⟩
  · exact tail b' cb pe_boolOne
  · exact tail _ cb (wE.pe X _)
theorem se_or {a b : E} (ha : SE D F a) (hb : SE D F b) : SE D F (.or a b) := by
  intro X G e σ ρ B H g g' env t fl S hc he
  obtain ⟨a', b', r', pos, rfl, ca, cb⟩ := chk_or hc
  unfold evalE at he
  obtain ⟨x, g1, ea, he⟩ := Out.bind_eq he
  have tail : ∀ (b'' : Expr), chkE D X.N X.env.scope b b'' = true → PE X (.BoolOp .Or (b' :: r') pos) (wE X b'') → wE X (.BoolOp .Or (a' :: b' :: r') pos) σ H (Post X.w X.K ρ B H t fl g') := by
    intro b'' cb pb
    refine wE.of (pe_orT (wE.pe X a') pb) ((ha X G a' σ ρ B H g g1 env x.1 x.2 S ca ea).mono fun v H1 q => ?_)
    obtain ⟨r, A, kp, hr, c1, h, hA⟩ := id q
    split at he
    · rename_i e1
      cases he
      refine ⟨true, tru_of h.sh e1, ?_⟩
      rw [if_pos rfl]
      exact q
    · rename_i e1
      refine ⟨false, tru_of h.sh e1, ?_⟩
      rw [if_neg Bool.false_ne_true]
      exact (hb X G b'' σ _ _ H1 g1 g' env t fl (S.on kp hr c1 hA h.there) cb he).mono fun u H2 q2 => q2.on S kp hr c1 hA h.there
    · cases he
  rcases cb with ⟨rfl, cb⟩ | ⟨_, cb⟩
  · exact tail b' cb pe_boolOne
  · exact tail _ cb (wE.pe X _)
/-- a test's end, handed on -/
theorem Base.sit {w : World} {K : PySem.W.Frag} {ρ r : List Addr} {B : Addr → Prop} {H H1 : Hp} {g g1 : List T} {env : Env} {σ : L2.St} (S : Sit w K ρ B H g env σ) (k : Keep ρ H H1) (hr : ∀ a ∈ r, H a = none) (c : Cells w K (ρ ++ r) H1 g1) :
    Sit w K (ρ ++ r) (fun a => B a ∨ a ∈ r ∨ a ∈ ([] : List Addr)) H1 g1 env σ := S.on k hr c (by simp) (by simp)
theorem pw_of {X : Cx} {op : BoolOp} {b : Expr} {r : List Expr} {pos : Pos} : PW X (.BoolOp op (b :: r) pos) (wT X (.BoolOp op (b :: r) pos)) := ⟨fun _ pins s σ H Q I h => h pins s I⟩
theorem st_and {a b : E} (ha : STt D F a) (hb : STt D F b) (hav : ∀ (env : Env) (g g' : List T) (t : T) (fl : Nat), evalE F env a g = .ok (t, fl) g' → True) : STt D F (.and a b) := by
  intro X G e σ ρ B H g g' env t fl bb S hc he ht
  obtain ⟨a', b', r', pos, rfl, ca, cb⟩ := chk_and hc
  unfold evalE at he
  obtain ⟨x, g1, ea, he⟩ := Out.bind_eq he
  have tail : ∀ (b'' : Expr), chkE D X.N X.env.scope b b'' = true → PW X (.BoolOp .And (b' :: r') pos) (wT X b'') →
      wT X (.BoolOp .And (a' :: b' :: r') pos) σ H fun b' H' => b' = bb ∧ ∃ r, Keep ρ H H' ∧ (∀ a ∈ r, H a = none) ∧ Cells X.w X.K (ρ ++ r) H' g' := by
    intro b'' cb pb
    refine wT.of (pw_and (wT.pt X a') pb).pt ?_
    split at he
    · rename_i e1
      refine (ha X G a' σ ρ B H g g1 env x.1 x.2 true S ca ea e1).mono fun b1 H1 q => ?_
      obtain ⟨rfl, r, kp, hr, c1⟩ := q
      rw [if_pos rfl]
      exact (hb X G b'' σ _ _ H1 g1 g' env t fl bb (Base.sit S kp hr c1) cb he ht).mono fun b2 H2 q2 => ⟨q2.1, Base.on (A := []) (B := B) S kp hr c1 (by simp) (by simp) q2.2⟩
    · rename_i e1
      cases he
      have eb : bb = false := by rw [e1] at ht; exact (Option.some.inj ht).symm
      subst eb
      refine (ha X G a' σ ρ B H g _ env t fl false S ca ea e1).mono fun b1 H1 q => ?_
      obtain ⟨rfl, q⟩ := q
      rw [if_neg Bool.false_ne_true]
      exact ⟨rfl, q⟩
    · cases he
  rcases cb with ⟨rfl, cb⟩ | ⟨_, cb⟩
  · exact tail b' cb (pw_and1 (wT.pt X b'))
  · exact tail _ cb pw_of
theorem st_or {a b : E} (ha : STt D F a) (hb : STt D F b) : STt D F (.or a b) := by
  intro X G e σ ρ B H g g' env t fl bb S hc he ht
  obtain ⟨a', b', r', pos, rfl, ca, cb⟩ := chk_or hc
  unfold evalE at he
  obtain ⟨x, g1, ea, he⟩ := Out.bind_eq he
  have tail : ∀ (b'' : Expr), chkE D X.N X.env.scope b b'' = true → PW X (.BoolOp .Or (b' :: r') pos) (wT X b'') →
      wT X (.BoolOp .Or (a' :: b' :: r') pos) σ H fun b' H' => b' = bb ∧ ∃ r, Keep ρ H H' ∧ (∀ a ∈ r, H a = none) ∧ Cells X.w X.K (ρ ++ r) H' g' := by
    intro b'' cb pb
    refine wT.of (pw_or (wT.pt X a') pb).pt ?_
    split at he
    · rename_i e1
      cases he
      have eb : bb = true := by rw [e1] at ht; exact (Option.some.inj ht).symm
      subst eb
      refine (ha X G a' σ ρ B H g _ env t fl true S ca ea e1).mono fun b1 H1 q => ?_
      obtain ⟨rfl, q⟩ := q
      rw [if_pos rfl]
      exact ⟨rfl, q⟩
    · rename_i e1
      refine (ha X G a' σ ρ B H g g1 env x.1 x.2 false S ca ea e1).mono fun b1 H1 q => ?_
      obtain ⟨rfl, r, kp, hr, c1⟩ := q
      rw [if_neg Bool.false_ne_true]
      exact (hb X G b'' σ _ _ H1 g1 g' env t fl bb (Base.sit S kp hr c1) cb he ht).mono fun b2 H2 q2 => ⟨q2.1, Base.on (A := []) (B := B) S kp hr c1 (by simp) (by simp) q2.2⟩
    · cases he
  rcases cb with ⟨rfl, cb⟩ | ⟨_, cb⟩
  · exact tail b' cb (pw_or1 (wT.pt X b'))
  · exact tail _ cb pw_of
theorem se_ite {c a b : E} (hc : STt D F c) (ha : SE D F a) (hb : SE D F b) : SE D F (.ite c a b) := by
  intro X G e σ ρ B H g g' env t fl S hch he
  unfold chkE at hch
  split at hch
  · rename_i c' a' b' pos
    obtain ⟨c12, cb⟩ := band hch
    obtain ⟨cc, ca⟩ := band c12
    unfold evalE at he
    obtain ⟨x, g1, ec, he⟩ := Out.bind_eq he
    refine wE.of (pe_ifExp (wT.pt X c') (wE.pe X a') (wE.pe X b')) ?_
    split at he
    · rename_i e1
      refine (hc X G c' σ ρ B H g g1 env x.1 x.2 true S cc ec e1).mono fun b1 H1 q => ?_
      obtain ⟨rfl, r, kp, hr, c1⟩ := q
      rw [if_pos rfl]
      exact (ha X G a' σ _ _ H1 g1 g' env t fl (Base.sit S kp hr c1) ca he).mono fun u H2 q2 => q2.on S kp hr c1 (by simp) (by simp)
    · rename_i e1
      refine (hc X G c' σ ρ B H g g1 env x.1 x.2 false S cc ec e1).mono fun b1 H1 q => ?_
      obtain ⟨rfl, r, kp, hr, c1⟩ := q
      rw [if_neg Bool.false_ne_true]
      exact (hb X G b' σ _ _ H1 g1 g' env t fl (Base.sit S kp hr c1) cb he).mono fun u H2 q2 => q2.on S kp hr c1 (by simp) (by simp)
    · cases he
  · cases hch
end Fx
end

section
set_option Elab.async false
set_option linter.all false
set_option maxRecDepth 100000
/-! Fx12: subscripts, slices, kinds. -/
namespace Fx
open PySem PySem.Spec PyProof.Rows L2
variable {D : Dec} {F : Call}

section
variable {w : World} {K : PySem.W.Frag} {ρ : List Addr} {B : Addr → Prop} {H : Hp} {o : Bool}
theorem Rs.at_ : ∀ {vs : List V} {ts : List T} {A : List Addr} {j : Nat} {t : T}, Rs w K ρ B H o vs ts A → ts[j]? = some t → ∃ v A', vs[j]? = some v ∧ R w K ρ B H o v t A' ∧ A'.Sublist A
  | _, _, _, _, _, .nil, h => by simp at h
  | _, _, _, 0, t, .cons h1 h2, h => by
    simp at h
    subst h
    exact ⟨_, _, rfl, h1, List.sublist_append_left _ _⟩
  | _, _, _, j + 1, t, .cons h1 h2, h => by
    obtain ⟨v, A', e1, e2, e3⟩ := Rs.at_ (j := j) h2 (by simpa using h)
    exact ⟨v, A', by simpa using e1, e2, e3.trans (List.sublist_append_right _ _)⟩
theorem Rs.atI {vs : List V} {ts : List T} {A : List Addr} {i : Int} {t : T} (h : Rs w K ρ B H o vs ts A) (e : atI ts i = some t) : ∃ v A', atI vs i = some v ∧ R w K ρ B H o v t A' ∧ A'.Sublist A := by
  unfold L2.atI at e ⊢
  rw [h.length]
  cases q : ixN ts.length i with
  | none => rw [q] at e; cases e
  | some j =>
    rw [q] at e
    obtain ⟨v, A', e1, e2, e3⟩ := h.at_ (j := j) (t := t) e
    exact ⟨v, A', e1, e2, e3⟩
theorem Rs.drop : ∀ {vs : List V} {ts : List T} {A : List Addr} (n : Nat), Rs w K ρ B H o vs ts A → ∃ A', Rs w K ρ B H o (vs.drop n) (ts.drop n) A' ∧ A'.Sublist A
  | _, _, A, 0, h => ⟨A, h, .refl _⟩
  | _, _, _, n + 1, .nil => ⟨[], .nil, .refl _⟩
  | _, _, _, n + 1, .cons h1 h2 => by
    obtain ⟨A', e1, e2⟩ := h2.drop n
    exact ⟨A', e1, e2.trans (List.sublist_append_right _ _)⟩
theorem Rs.take : ∀ {vs : List V} {ts : List T} {A : List Addr} (n : Nat), Rs w K ρ B H o vs ts A → ∃ A', Rs w K ρ B H o (vs.take n) (ts.take n) A' ∧ A'.Sublist A
  | _, _, A, 0, h => ⟨[], .nil, List.nil_sublist _⟩
  | _, _, _, n + 1, .nil => ⟨[], .nil, .refl _⟩
  | _, _, _, n + 1, .cons h1 h2 => by
    obtain ⟨A', e1, e2⟩ := h2.take n
    exact ⟨_, .cons h1 e1, e2.append_left _⟩
theorem cutN_eq (n : Nat) (lo hi : Option Int) : cutN n lo hi = (HT.sIx n 0 lo, HT.sIx n n hi) := by
  cases lo <;> cases hi <;> rfl
theorem Rs.cut {vs : List V} {ts : List T} {A : List Addr} (lo hi : Option Int) (h : Rs w K ρ B H o vs ts A) : ∃ A', Rs w K ρ B H o (cutV vs lo hi) (cutT ts lo hi) A' ∧ A'.Sublist A := by
  unfold cutV cutT
  rw [cutN_eq, h.length]
  obtain ⟨A1, h1, s1⟩ := h.drop (HT.sIx ts.length 0 lo)
  obtain ⟨A2, h2, s2⟩ := h1.take (HT.sIx ts.length ts.length hi - HT.sIx ts.length 0 lo)
  exact ⟨A2, h2, s2.trans s1⟩
theorem Rs.snoc_inv {v : V} {t : T} : ∀ {vs : List V} {ts : List T} {A : List Addr}, Rs w K ρ B H o (vs ++ [v]) (ts ++ [t]) A → ∃ A1 A2, A = A1 ++ A2 ∧ Rs w K ρ B H o vs ts A1 ∧ R w K ρ B H o v t A2
  | [], [], A, h => by
    obtain ⟨A1, A2, e, h1, h2⟩ := h.inv
    cases h2
    exact ⟨[], A1, by simp [e], .nil, h1⟩
  | [], _ :: _, A, h => by
    have := h.length
    simp at this
  | _ :: _, [], A, h => by
    have := h.length
    simp at this
  | x :: vs, y :: ts, A, h => by
    obtain ⟨A1, A2, e, h1, h2⟩ := h.inv
    obtain ⟨A3, A4, e', h3, h4⟩ := h2.snoc_inv
    exact ⟨A1 ++ A3, A4, by rw [e, e', List.append_assoc], .cons h1 h3, h4⟩
theorem Rs.reverse : ∀ {vs : List V} {ts : List T} {A : List Addr}, Rs w K ρ B H o vs ts A → ∃ A', Rs w K ρ B H o vs.reverse ts.reverse A' ∧ A'.Perm A
  | _, _, _, .nil => ⟨[], .nil, .refl _⟩
  | _, _, _, .cons (A := A) (A' := A') h1 h2 => by
    obtain ⟨A2, e1, e2⟩ := h2.reverse
    refine ⟨A2 ++ (A ++ []), by simpa using e1.app (.cons h1 .nil), ?_⟩
    rw [List.append_nil]
    exact (List.perm_append_comm).trans (List.Perm.append_left A e2)
end
/-- a new list, what it owns in any order -/
theorem post_lstP {w : World} {K : PySem.W.Frag} {ρ : List Addr} {B : Addr → Prop} {H H' : Hp} {g g' : List T} {env : Env} {σ : L2.St} {p : Addr} {fl : Nat} (S : Sit w K ρ B H g env σ) {rs : List (T × Nat)} {vs ws : List V} {ts : List T} (q : PostL w K ρ B H rs g' vs H') (np : H' p = none)
    (k : ∀ ρ' B' A', RFs w K ρ' H' B' vs rs A' → (fl = 2 ∧ ∃ A'' A3, A3.Sublist A' ∧ A''.Perm A3 ∧ Rs w K ρ' B' H' true ws ts A'') ∨ (fl = 1 ∧ Rs w K ρ' B' H' false ws ts [])) :
    Post w K ρ B H (.lst ts) fl g' (.ref p) (upd H' p (.lst ws)) := by
  have hp := q.free S np
  obtain ⟨r, A, kp, hr, c, h, hA⟩ := id q
  rcases k _ _ _ h with ⟨rfl, A2, A3, sub, pm, q2⟩ | ⟨rfl, q2⟩
  · have nr : p ∉ r := fun z => by
      obtain ⟨vs, y⟩ := c.live (List.mem_append.mpr (.inr z))
      rw [np] at y; cases y
    have nB : ¬ (B p ∨ p ∈ r) := fun z => by
      rcases z with z | z
      · exact S.badT p z hp
      · exact nr z
    have nA : p ∉ A2 := fun z => h.there p (sub.subset (pm.mem_iff.mp z)) np
    have nb2 : ∀ a ∈ A2, ¬ (B a ∨ a ∈ r) := fun a ha => h.nb a (sub.subset (pm.mem_iff.mp ha))
    refine ⟨r, p :: A2, kp.trans (Keep.upd np), hr, c.fresh np, .inr (.inr ⟨rfl, .lst2 upd_same (q2.mv (Mv.fresh np) nb2), List.nodup_cons.mpr ⟨nA, pm.nodup_iff.mpr (h.nodup.sublist sub)⟩, fun a ha => ?_⟩), fun a ha => ?_⟩
    · rcases List.mem_cons.mp ha with rfl | ha
      · exact nB
      · exact nb2 a ha
    · rcases List.mem_cons.mp ha with rfl | ha
      · exact hp
      · exact hA a (sub.subset (pm.mem_iff.mp ha))
  · exact post_lst S q np fun ρ' B' A' z => by
      rcases k ρ' B' A' z with ⟨e, _⟩ | ⟨_, q3⟩
      · cases e
      · exact .inr ⟨rfl, q3⟩

theorem se_neg {a : E} (ha : SE D F a) : SE D F (.neg a) := by
  intro X G e σ ρ B H g g' env t fl S hc he
  unfold evalE at he
  obtain ⟨x, g1, ea, he⟩ := Out.bind_eq he
  split at he
  · rename_i i hx
    cases he
    unfold chkE at hc
    split at hc
    · rename_i a' pos
      refine wE.of (pe_un un_neg (wE.pe X a')) ((ha X G a' σ ρ B H g _ env x.1 x.2 S hc ea).mono fun v H' q => ?_)
      have bs := q.base
      obtain ⟨r, A, kp, hr, c1, h, hA⟩ := q
      have h' := h.sh
      rw [hx] at h'
      exact ⟨i, h'.int_inv, bs.int _⟩
    · cases hc
  · cases he
theorem se_dic0 {n : Bool} : SE D F (.dic0 n) := by
  intro X G e σ ρ B H g g' env t fl S hc he
  unfold evalE at he
  cases he
  have hs : ∀ p, H p = none → ¬ B p := fun p np z => S.badT p z np
  unfold chkE at hc
  split at hc
  · rename_i pos
    cases n with
    | false =>
      refine wE.of pe_dnewK fun p np => ⟨[], [p], Keep.upd np, by simp, by rw [List.append_nil]; exact S.cells.fresh np, .inr (.inl ⟨rfl, p, rfl, rfl, fun z => ?_, ?_⟩), fun a ha => ?_⟩
      · rcases z with z | z
        · exact hs p np z
        · simp at z
      · exact .dicS (kvs := []) upd_same .nil
      · rw [List.mem_singleton.mp ha]; exact np
    | true =>
      refine fun pins s I => wpAny_Dict_empty ?_
      have np : H s.heap.objs.size = none := I.hok.fresh (Nat.le_refl _)
      have hsm : (s.heap.objs.size == sysModules) = false := beq_eq_false_iff_ne.mpr (Ne.symm (Nat.ne_of_lt I.big))
      refine ⟨.ref s.heap.objs.size, upd H s.heap.objs.size (.ext (DictIs X.w s.heap.objs.size (T.nks []) [] [])), I.laid (t' := s.toks) (fun _ _ q => Heap.get?_push_of_some _ q) (Nat.le_refl _) (ext_ok ⟨hsm, by simp, _, #[], 0, [], Heap.get?_push_size _ rfl, ⟨rfl, rfl, rfl⟩, rfl, .nil, rfl⟩), rfl, ?_⟩
      refine ⟨[], [_], Keep.upd np, by simp, by rw [List.append_nil]; exact S.cells.fresh np, .inr (.inl ⟨rfl, _, rfl, rfl, fun z => ?_, ?_⟩), fun a ha => ?_⟩
      · rcases z with z | z
        · exact hs _ np z
        · simp at z
      · exact .dicN (kas := []) (vs := []) upd_same rfl List.nodup_nil rfl .nil .nil
      · rw [List.mem_singleton.mp ha]; exact np
  · cases hc
theorem se_rev {a : E} (ha : SE D F a) : SE D F (.rev a) := by
  intro X G e σ ρ B H g g' env t fl S hc he
  unfold evalE at he
  obtain ⟨x, g1, ea, he⟩ := Out.bind_eq he
  split at he
  · rename_i ts hx
    cases he
    unfold chkE at hc
    split at hc
    · rename_i a' one p1 p2 p3
      obtain ⟨c1, c2⟩ := band hc
      unfold isLitInt at c2
      split at c2
      · rename_i j k pos
        have ej : (1 : Int) = j := of_decide_eq_true c2
        subst ej
        refine wE.of (pe_revL (wE.pe X a')) (one ha G S c1 ea fun v H' q z => ?_)
        obtain ⟨r, A, kp, hr, cl, h, hA⟩ := id q
        obtain ⟨l, vs, rfl, _, hl, r1⟩ := h.r1.lst_inv' hx
        refine ⟨l, vs, rfl, SqL.of hl, fun p np => post_lstP S q np fun ρ' B' A' z' => ?_⟩
        have f1 := z'.inv1
        rw [hx] at f1
        split
        · rename_i hf
          rw [hf] at f1
          obtain ⟨m1, ws1, A1', e3, h3, rfl, k3⟩ := f1.lst2
          cases e3
          rw [hl] at h3
          cases h3
          obtain ⟨A2, e1, e2⟩ := k3.reverse
          exact .inl ⟨rfl, A2, A1', List.sublist_cons_self _ _, e2, e1⟩
        · obtain ⟨m1, ws1, e3, _, h3, k3⟩ := f1.sh.lst_inv
          cases e3
          rw [hl] at h3
          cases h3
          obtain ⟨A2, e1, _⟩ := k3.reverse
          have := e1.nil0
          subst this
          exact .inr ⟨rfl, e1⟩
      · cases c2
    · cases hc
  · cases he
end Fx
end

section
set_option Elab.async false
set_option linter.all false
set_option maxRecDepth 100000
/-! Fx13: subscripts, slices, kinds of values, places. -/
namespace Fx
open PySem PySem.Spec PyProof.Rows L2
variable {D : Dec} {F : Call}

/-! ### subscripts -/
theorem R.flatAny {w : World} {K : PySem.W.Frag} {ρ : List Addr} {B B' : Addr → Prop} {H : Hp} {o o' : Bool} {v : V} {t : T} {A : List Addr} (h : R w K [] B H o v t A) (f : t.flat = true) : R w K ρ B' H o' v t [] := by
  have h1 : R w K [] (fun _ => True) H true v t [] := (h.flat f).1
  have h2 : R w K ρ (fun _ => True) H true v t [] := h1.mv ⟨fun a o e n => e, fun a xs e => e, fun a o u e => e, fun a z => .inl z, ⟨ρ, by simp⟩⟩ (by simp)
  exact (h2.flat f).1
theorem flats_at {ts : List T} {j : Nat} {t : T} (f : T.flats ts = true) (h : ts[j]? = some t) : t.flat = true := by
  induction ts generalizing j with
  | nil => simp at h
  | cons x r ih =>
    obtain ⟨f1, f2⟩ := band (show (T.flat x && T.flats r) = true from f)
    cases j with
    | zero => simp at h; subst h; exact f1
    | succ j => exact ih f2 (by simpa using h)
theorem flats_atI {ts : List T} {i : Int} {t : T} (f : T.flats ts = true) (h : atI ts i = some t) : t.flat = true := by
  obtain ⟨j, _, h2, _⟩ := atI_get h
  exact flats_at f h2
theorem sub_dict {X : Cx} {o i : Expr} {pos : Pos} {σ : L2.St} {H : Hp} {Q : VK} (hs : NoSl i)
    (h : wE X o σ H fun x H1 => wE X i σ H1 fun y H2 => ∀ (pins : List (Addr × Obj)) (s : Shared) (v u : Value), L2.Inv X pins σ H2 s → L2.RelV x v → L2.RelV y u → s.TypeIs v "dict" ∧ wpAny (model X.prog X.w) X.A (getItem v u) (EP X pins σ Q) X.xe s) :
    wE X (.Subscript o i pos) σ H Q := fun pins s I =>
  subD_of PySem.F.slot_dict_getitem.lookup hs (thn (h pins s I) fun v s1 ⟨x, H1, I1, r1, q1⟩ => thn (q1 pins s1 I1) fun u s2 ⟨y, H2, I2, r2, q2⟩ => q2 pins s2 v u I2 r1 r2)
theorem post_partH {w : World} {K : PySem.W.Frag} {ρ r : List Addr} {B : Addr → Prop} {H H' : Hp} {g' : List T} {vs : List V} {rs : List (T × Nat)} {A : List Addr} {v : V} {t : T} {fl : Nat} (kp : Keep ρ H H') (hr : ∀ a ∈ r, H a = none) (c : Cells w K (ρ ++ r) H' g')
    (h : RFs w K (ρ ++ r) H' (fun a => B a ∨ a ∈ r) vs rs A) (hA : ∀ a ∈ A, H a = none)
    (k : (fl = 2 ∧ ∃ A'', A''.Sublist A ∧ R w K (ρ ++ r) (fun a => B a ∨ a ∈ r) H' true v t A'') ∨ (fl = 0 ∧ R w K (ρ ++ r) (fun a => B a ∨ a ∈ r) H' false v t [])) : Post w K ρ B H t fl g' v H' := by
  rcases k with ⟨rfl, A2, sub, q2⟩ | ⟨rfl, q2⟩
  · exact ⟨r, A2, kp, hr, c, .inr (.inr ⟨rfl, q2, h.nodup.sublist sub, fun a ha => h.nb a (sub.subset ha)⟩), fun a ha => hA a (sub.subset ha)⟩
  · exact ⟨r, [], kp, hr, c, .inl ⟨rfl, rfl, q2⟩, by simp⟩
theorem se_idx {a i : E} (ha : SE D F a) (hi : SE D F i) : SE D F (.idx a i) := by
  intro X G e σ ρ B H g g' env t fl S hc he
  unfold evalE at he
  obtain ⟨x, g1, ea, he⟩ := Out.bind_eq he
  obtain ⟨y, g2, ei, he⟩ := Out.bind_eq he
  obtain ⟨hf, rfl⟩ := Out.of_eq he
  unfold chkE at hc
  split at hc
  · rename_i a' i' pos
    obtain ⟨ca, ci⟩ := band hc
    have hpl := plainIx_ok (okE_chk ci)
    unfold idxV at hf
    split at hf
    · rename_i xs n hx hy
      obtain ⟨t', ht, hf⟩ := Option.map_eq_some_iff.mp hf
      cases hf
      refine wE.of (pe_ix ix_list (wE.pe X a') (wE.pe X i') hpl) (two ha hi G S ca ci ea ei fun v u H' q z => ?_)
      obtain ⟨r, A, kp, hr, c, h, hA⟩ := id q
      have e2 := h.r2
      rw [hy] at e2
      obtain ⟨l, vs, rfl, _, hl, r1⟩ := h.r1.lst_inv' hx
      obtain ⟨v', _, hv', _, _⟩ := r1.atI ht
      refine ⟨l, vs, n, v', rfl, e2.int_inv, SqL.of hl, hv', post_part S q fun ρ' B' A' z' => ?_⟩
      obtain ⟨A1, A2, rfl, f1, f2⟩ := z'.inv2
      rw [hx] at f1
      split
      · rename_i hf2
        rw [hf2] at f1
        obtain ⟨m1, ws1, A1', e3, h3, rfl, k3⟩ := f1.lst2
        cases e3
        rw [hl] at h3
        cases h3
        obtain ⟨v2, A3, e4, k4, s4⟩ := k3.atI ht
        rw [hv'] at e4
        cases e4
        exact .inl ⟨rfl, A3, (s4.trans (List.sublist_cons_self _ _)).trans (List.sublist_append_left _ _), k4.weak fun _ z => .inl z⟩
      · obtain ⟨m1, ws1, e3, _, h3, k3⟩ := (z'.r1 (x := x)).lst_inv' hx
        cases e3
        rw [hl] at h3
        cases h3
        obtain ⟨v2, A3, e4, k4, s4⟩ := k3.atI ht
        rw [hv'] at e4
        cases e4
        have := k4.nil
        subst this
        exact .inr ⟨rfl, k4⟩
    · rename_i xs n hx hy
      obtain ⟨t', ht, hf⟩ := Option.map_eq_some_iff.mp hf
      cases hf
      refine wE.of (pe_ix ix_tup (wE.pe X a') (wE.pe X i') hpl) (two ha hi G S ca ci ea ei fun v u H' q z => ?_)
      obtain ⟨r, A, kp, hr, c, h, hA⟩ := id q
      have e2 := h.r2
      rw [hy] at e2
      have e1 := h.r1
      rw [hx] at e1
      obtain ⟨A1, A2, eA, f1, f2⟩ := h.inv2
      rw [hx] at f1
      by_cases hf2 : x.2 = 2
      · rw [hf2] at f1
        obtain ⟨l, vs, rfl, hl, r1⟩ := f1.own2.tup_inv
        obtain ⟨v', A3, hv', k4, s4⟩ := r1.atI ht
        refine ⟨l, vs, n, v', rfl, e2.int_inv, hl, hv', ?_⟩
        rw [if_pos hf2]
        exact post_partH kp hr c h hA (.inl ⟨rfl, A3, s4.trans (by rw [eA]; exact List.sublist_append_left _ _), k4.weak fun _ z => .inl z⟩)
      · obtain ⟨l, vs, rfl, hl, r1⟩ := e1.tup_inv
        obtain ⟨v', A3, hv', k4, s4⟩ := r1.atI ht
        have := k4.nil
        subst this
        refine ⟨l, vs, n, v', rfl, e2.int_inv, hl, hv', ?_⟩
        rw [if_neg hf2]
        exact post_partH kp hr c h hA (.inr ⟨rfl, k4⟩)
    · rename_i xs n hx hy
      obtain ⟨t', ht, hf⟩ := Option.map_eq_some_iff.mp hf
      cases hf
      refine wE.of (pe_ix ix_list (wE.pe X a') (wE.pe X i') hpl) (two ha hi G S ca ci ea ei fun v u H' q z => ?_)
      obtain ⟨r, A, kp, hr, c, h, hA⟩ := id q
      have e2 := h.r2
      rw [hy] at e2
      have e1 := h.r1
      rw [hx] at e1
      cases e1 with
      | fro h1 h2 =>
        obtain ⟨v', A3, hv', k4, _⟩ := h2.atI ht
        have := k4.nil
        subst this
        exact ⟨_, _, n, v', rfl, e2.int_inv, h1.sq, hv', post_partH kp hr c h hA (.inr ⟨rfl, k4⟩)⟩
    · rename_i z n hx hy
      split at hf
      · rename_i hz
        obtain ⟨t', ht, hf⟩ := Option.map_eq_some_iff.mp hf
        cases hf
        refine wE.of (pe_ix ix_str (wE.pe X a') (wE.pe X i') hpl) (two ha hi G S ca ci ea ei fun v u H' q _ => ?_)
        obtain ⟨r, A, kp, hr, c, h, hA⟩ := id q
        have e2 := h.r2
        rw [hy] at e2
        have e1 := h.r1
        rw [hx] at e1
        obtain ⟨rfl, hcs⟩ := e1.str_inv
        have hm : t' ∈ z := by
          obtain ⟨j, _, h2, _⟩ := atI_get ht
          exact List.mem_of_getElem? h2
        refine ⟨_, n, t', rfl, e2.int_inv, by rw [str_len]; exact hz, by simpa using ht, q.base.post fun _ _ => ?_⟩
        exact R.str [t'] fun c hc => by
          rw [List.mem_singleton.mp hc]
          exact hcs t' hm
      · cases hf
    · rename_i m n hx hy
      split at hf
      · rename_i xs hg
        obtain ⟨t', ht, hf⟩ := Option.map_eq_some_iff.mp hf
        cases hf
        refine wE.of (pe_ix ix_list (wE.pe X a') (wE.pe X i') hpl) (two ha hi G S ca ci ea ei fun v u H' q _ => ?_)
        obtain ⟨r, A, kp, hr, c, h, hA⟩ := id q
        have e2 := h.r2
        rw [hy] at e2
        have e1 := h.r1
        rw [hx] at e1
        cases e1 with
        | cell hcell =>
          obtain ⟨vs, ts, et, hH, hrs, hfl⟩ := c.at_ m _ _ hcell hg
          cases et
          obtain ⟨v', A3, hv', k4, s4⟩ := hrs.atI ht
          have hA3 : A3 = [] := List.eq_nil_of_sublist_nil s4
          subst hA3
          exact ⟨_, _, n, v', rfl, e2.int_inv, SqL.of hH, hv', post_partH kp hr c h hA (.inr ⟨rfl, k4.flatAny (flats_atI hfl ht)⟩)⟩
      · cases hf
    · rename_i n ks ts hx
      split at hf
      · rename_i hk
        obtain ⟨t', ht, hf⟩ := Option.map_eq_some_iff.mp hf
        cases hf
        refine sub_dict hpl (two ha hi G S ca ci ea ei fun v u H' q _ => ?_)
        obtain ⟨r, A, kp, hr, c, h, hA⟩ := id q
        have e1 := h.r1
        rw [hx] at e1
        exact fun pins s v' u' I rv ru => dic_get G.un I rv ru e1 h.r2 hk ht fun z hz => post_partH kp hr c h hA (.inr ⟨rfl, hz⟩)
      · cases hf
    · cases hf
  · cases hc

/-! ### slices -/
/-- a part of a slice -/
def wP (X : Cx) (e : Option Expr) : TO := match e with
  | none => tNoPart
  | some e => tPart (wE X e)
theorem wP.po (X : Cx) (e : Option Expr) : PO X e (wP X e) := by
  cases e with
  | none => exact po_none
  | some e => exact po_some (wE.pe X e)
def chkP (D : Dec) (N : List Str) (sc : Scope) (lo : E) (lo' : Option Expr) : Bool := match lo' with
  | none => isNonE lo
  | some l => !isNonE lo && chkE D N sc lo l
theorem part_ok {X : Cx} {σ : L2.St} {ρ : List Addr} {B : Addr → Prop} {H : Hp} {g g1 : List T} {env : Env} {lo : E} {lo' : Option Expr} {l : T × Nat} {o : Option Int} {Q : Option Int → Hp → Prop} (hlo : SE D F lo) (G : Gd X D F) (S : Sit X.w X.K ρ B H g env σ) (c : chkP D X.N X.env.scope lo lo' = true)
    (e : evalE F env lo g = .ok l g1) (p : partOf lo l.1 = some o) (k : ∀ H', Base X.w X.K ρ H g1 H' → Q o H') : wP X lo' σ H Q := by
  cases lo' with
  | none =>
    have hn : isNonE lo = true := c
    have el : lo = .lit .non := by
      unfold isNonE at hn
      split at hn
      · rfl
      · cases hn
    subst el
    unfold evalE at e
    cases e
    cases p
    exact k H ⟨[], Keep.refl _ _, by simp, by rw [List.append_nil]; exact S.cells⟩
  | some l' =>
    obtain ⟨c1, c2⟩ := band (show (!isNonE lo && chkE D X.N X.env.scope lo l') = true from c)
    have hn : isNonE lo = false := by simpa using c1
    refine (hlo X G l' σ ρ B H g g1 env l.1 l.2 S c2 e).mono fun v H' q => ?_
    have bs := q.base
    obtain ⟨r, A, kp, hr, cl, h, hA⟩ := q
    unfold partOf at p
    rw [hn] at p
    have h' := h.sh
    split at p
    · cases p
    · rename_i i hi
      cases p
      rw [hi] at h'
      exact ⟨i, h'.int_inv, k H' bs⟩
    · cases p
theorem post_tupH {w : World} {K : PySem.W.Frag} {ρ r : List Addr} {B : Addr → Prop} {H H' : Hp} {g' : List T} {vs ws : List V} {rs : List (T × Nat)} {A : List Addr} {ts : List T} {fl : Nat} {p : Addr} (kp : Keep ρ H H') (hr : ∀ a ∈ r, H a = none) (c : Cells w K (ρ ++ r) H' g')
    (h : RFs w K (ρ ++ r) H' (fun a => B a ∨ a ∈ r) vs rs A) (hA : ∀ a ∈ A, H a = none) (np : H' p = none)
    (k : (fl = 2 ∧ ∃ A'', A''.Sublist A ∧ Rs w K (ρ ++ r) (fun a => B a ∨ a ∈ r) H' true ws ts A'') ∨ (fl = 0 ∧ Rs w K (ρ ++ r) (fun a => B a ∨ a ∈ r) H' false ws ts [])) : Post w K ρ B H (.tup ts) fl g' (.ref p) (upd H' p (.tup ws)) := by
  have kp' : Keep ρ H (upd H' p (.tup ws)) := kp.trans (Keep.upd np)
  rcases k with ⟨rfl, A2, sub, q2⟩ | ⟨rfl, q2⟩
  · have nb2 : ∀ a ∈ A2, ¬ (B a ∨ a ∈ r) := fun a ha => h.nb a (sub.subset ha)
    exact ⟨r, A2, kp', hr, c.fresh np, .inr (.inr ⟨rfl, .tup (SqT.of upd_same) (q2.mv (Mv.fresh np) nb2), h.nodup.sublist sub, nb2⟩), fun a ha => hA a (sub.subset ha)⟩
  · exact ⟨r, [], kp', hr, c.fresh np, .inl ⟨rfl, rfl, .tup (SqT.of upd_same) (q2.mv (Mv.fresh np) (by simp))⟩, by simp⟩
theorem sIxT {n : Nat} {lo hi : Option Int} (h : ¬ cutN n lo hi = (0, n)) : ¬ (HT.sIx n 0 lo = 0 ∧ HT.sIx n n hi = n) := fun ⟨a, b⟩ => h (by rw [cutN_eq, a, b])
/-- behind two parts the first value stands as it was -/
theorem keep_mid {X : Cx} {ρ r : List Addr} {B : Addr → Prop} {H H1 H3 : Hp} {g g1 g3 : List T} {env : Env} {σ : L2.St} {x : T × Nat} {v : V} {A : List Addr} (S : Sit X.w X.K ρ B H g env σ)
    (kp : Keep ρ H H1) (hr : ∀ a ∈ r, H a = none) (c : Cells X.w X.K (ρ ++ r) H1 g1) (h : RF X.w X.K (ρ ++ r) (fun a => B a ∨ a ∈ r) H1 v x.1 x.2 A) (hA : ∀ a ∈ A, H a = none)
    (b : Base X.w X.K (ρ ++ r) H1 g3 H3) : PostL X.w X.K ρ B H [x] g3 [v] H3 := by
  have q := postL_cons (x := x) S kp hr c h hA (Base.post (v := .non) (t := .non) b fun _ _ => .non).toL
  obtain ⟨r', A', k1, k2, k3, k4, k5⟩ := q
  refine ⟨r', A', k1, k2, k3, ?_, k5⟩
  cases k4 with
  | cons h1 h2 =>
    cases h2 with
    | cons h3 h4 =>
      cases h4
      have e : _ = [] := (h3.flat (B' := fun _ => True) rfl).2
      subst e
      exact .cons (h1.weakB fun a z => by simpa using z) .nil
theorem se_slc {a lo hi : E} (ha : SE D F a) (hlo : SE D F lo) (hhi : SE D F hi) : SE D F (.slc a lo hi) := by
  intro X G e σ ρ B H g g' env t fl S hc he
  unfold evalE at he
  obtain ⟨x, g1, ea, he⟩ := Out.bind_eq he
  obtain ⟨l, g2, el, he⟩ := Out.bind_eq he
  obtain ⟨h, g3, eh, he⟩ := Out.bind_eq he
  obtain ⟨hf, rfl⟩ := Out.of_eq he
  obtain ⟨lo1, p1, hf⟩ := Option.bind_eq_some_iff.mp hf
  obtain ⟨hi1, p2, hf⟩ := Option.bind_eq_some_iff.mp hf
  unfold chkE at hc
  split at hc
  · rename_i a' lo' hi' p3 pos
    obtain ⟨c12, c3⟩ := band hc
    obtain ⟨ca, c2⟩ := band c12
    have c2' : chkP D X.N X.env.scope lo lo' = true := c2
    have c3' : chkP D X.N X.env.scope hi hi' = true := c3
    -- the three parts
    have core : ∀ {r : V → Option Int → Option Int → Hp → VK → Prop}, SlR X r → (∀ v H3, PostL X.w X.K ρ B H [x] g3 [v] H3 → r v lo1 hi1 H3 (Post X.w X.K ρ B H t fl g3)) →
        wE X (.Subscript a' (.Slice lo' hi' none p3) pos) σ H (Post X.w X.K ρ B H t fl g3) := by
      intro r hr k
      refine wE.of (pe_slice hr (wE.pe X a') (wP.po X lo') (wP.po X hi')) ((ha X G a' σ ρ B H g g1 env x.1 x.2 S ca ea).mono fun v H1 q => ?_)
      obtain ⟨r1, A, kp, hr1, c1, h1, hA⟩ := q
      have S1 := S.on kp hr1 c1 hA h1.there
      refine part_ok hlo G S1 c2' el p1 fun H2 b2 => ?_
      obtain ⟨r2, kp2, hr2, c22⟩ := id b2
      have S2 := Base.sit S1 kp2 hr2 c22
      refine part_ok hhi G S2 c3' eh p2 fun H3 b3 => k v H3 ?_
      exact keep_mid S kp hr1 c1 h1 hA (Base.on (A := []) S1 kp2 hr2 c22 (by simp) (by simp) b3)
    unfold slcV at hf
    split at hf
    · rename_i xs hx
      cases hf
      refine core sl_list fun v H3 q => ?_
      obtain ⟨r, A, kp, hr, c, h, hA⟩ := id q
      obtain ⟨ad, vs, rfl, _, hl, r1⟩ := h.r1.lst_inv' hx
      refine ⟨ad, vs, rfl, SqL.of hl, fun p np => post_lst S q np fun ρ' B' A' z' => ?_⟩
      have f1 := z'.inv1
      rw [hx] at f1
      split
      · rename_i hf2
        rw [hf2] at f1
        obtain ⟨m1, ws1, A1', e3, h3, rfl, k3⟩ := f1.lst2
        cases e3
        rw [hl] at h3
        cases h3
        obtain ⟨A2, e1, e2⟩ := k3.cut lo1 hi1
        exact .inl ⟨rfl, A2, e2.trans (List.sublist_cons_self _ _), e1⟩
      · obtain ⟨m1, ws1, e3, _, h3, k3⟩ := f1.sh.lst_inv
        cases e3
        rw [hl] at h3
        cases h3
        obtain ⟨A2, e1, _⟩ := k3.cut lo1 hi1
        have := e1.nil0
        subst this
        exact .inr ⟨rfl, e1⟩
    · rename_i xs hx
      cases hf
      refine core sl_list fun v H3 q => ?_
      obtain ⟨r, A, kp, hr, c, h, hA⟩ := id q
      have e1 := h.r1
      rw [hx] at e1
      cases e1 with
      | fro f1 f2 =>
        refine ⟨_, _, rfl, f1.sq, fun p np => ?_⟩
        have hp := q.free S np
        obtain ⟨A2, e1, _⟩ := f2.cut lo1 hi1
        have := e1.nil0
        subst this
        have nr : p ∉ r := fun z => by
          obtain ⟨vs, y⟩ := c.live (List.mem_append.mpr (.inr z))
          rw [np] at y; cases y
        refine ⟨r, [p], kp.trans (Keep.upd np), hr, c.fresh np, .inr (.inl ⟨rfl, p, rfl, rfl, fun z => ?_, .lst upd_same (e1.mv (Mv.freshB np) (by simp))⟩), fun a ha => ?_⟩
        · rcases z with z | z
          · exact S.badT p z hp
          · exact nr z
        · rw [List.mem_singleton.mp ha]; exact hp
    · rename_i xs hx
      split at hf
      · cases hf
      · rename_i hw
        cases hf
        refine core sl_tup fun v H3 q => ?_
        obtain ⟨r, A, kp, hr, c, h, hA⟩ := id q
        have f1 := h.inv1
        rw [hx] at f1
        by_cases hf2 : x.2 = 2
        · rw [hf2] at f1
          obtain ⟨ad, vs, rfl, hl, r1⟩ := f1.own2.tup_inv
          obtain ⟨A2, e1, s1⟩ := r1.cut lo1 hi1
          refine ⟨ad, vs, rfl, hl, sIxT (by rw [r1.length]; exact hw), fun p np => ?_⟩
          rw [if_pos hf2]
          exact post_tupH kp hr c h hA np (.inl ⟨rfl, A2, s1, e1⟩)
        · obtain ⟨ad, vs, rfl, hl, r1⟩ := f1.sh.tup_inv
          obtain ⟨A2, e1, s1⟩ := r1.cut lo1 hi1
          have := e1.nil0
          subst this
          refine ⟨ad, vs, rfl, hl, sIxT (by rw [r1.length]; exact hw), fun p np => ?_⟩
          rw [if_neg hf2]
          exact post_tupH kp hr c h hA np (.inr ⟨rfl, e1⟩)
    · rename_i s0 hx
      split at hf
      · rename_i hz
        cases hf
        refine core sl_str fun v H3 q => ?_
        obtain ⟨r, A, kp, hr, c, h, hA⟩ := id q
        have e1 := h.r1
        rw [hx] at e1
        obtain ⟨rfl, hcs⟩ := e1.str_inv
        refine ⟨_, rfl, by rw [str_len]; exact hz, ?_⟩
        have e2 : cutS ⟨s0.toArray⟩ lo1 hi1 = ⟨(cutT s0 lo1 hi1).toArray⟩ := by
          unfold cutS cutT
          rw [cutN_eq, str_len]
        rw [e2]
        exact q.base.post fun _ _ => .str _ fun c hc => hcs c (List.mem_of_mem_drop (List.mem_of_mem_take hc))
      · cases hf
    · cases hf
  · cases hc
end Fx
end

section
set_option Elab.async false
set_option linter.all false
set_option maxRecDepth 100000
/-! Fx14: kinds of values, places, built-ins. -/
namespace Fx
open PySem PySem.Spec PyProof.Rows L2
variable {D : Dec} {F : Call}

/-! ### isinstance -/
def tyOfT : T → String
  | .non => "NoneType"
  | .bl _ => "bool"
  | .int _ => "int"
  | .str _ => "str"
  | .tup _ => "tuple"
  | .dic _ _ _ => "dict"
  | _ => "list"
theorem kit_tab (s : String) (hs : s = "NoneType" ∨ s = "bool" ∨ s = "int" ∨ s = "str" ∨ s = "tuple" ∨ s = "dict" ∨ s = "list") (y : Ty) : kitB s (tyName y) = some (match s, y with
    | "int", .int => true
    | "bool", .int => true
    | "bool", .bool => true
    | "str", .str => true
    | "tuple", .tuple => true
    | "list", .list => true
    | _, _ => false) := by
  rcases hs with rfl | rfl | rfl | rfl | rfl | rfl | rfl <;> cases y <;> decide +kernel
theorem kit_T (t : T) (y : Ty) : kitB (tyOfT t) (tyName y) = some (isTy t y) := by
  rw [kit_tab _ (by cases t <;> simp [tyOfT])]
  cases t <;> cases y <;> rfl
theorem tyX_of {w : World} {K : PySem.W.Frag} {ρ : List Addr} {B : Addr → Prop} {H : Hp} {v : V} {t : T} {A : List Addr} {g : List T} (h : R w K ρ B H false v t A) (c : Cells w K ρ H g) (n : noTy t = false) : TyX K H v (.type (tyOfT t)) := by
  cases h with
  | non => exact .base .non
  | bl b => exact .base (.bl b)
  | int i => exact .base (.int i)
  | str s _ => exact .base (.str _)
  | tup h1 h2 =>
    rcases h1 with (h1 | ⟨o, h1⟩) | ⟨o, its, m, h1, h2, _⟩
    · exact .base (.tup h1)
    · exact .fTuple h1
    · exact .kTuple h1 h2
  | lst0 h1 h2 h3 => exact .base (.lst h2)
  | fro h1 h2 =>
    rcases h1 with ⟨o, h1⟩ | ⟨o, its, m, h1, h2, _⟩
    · exact .base (.frz h1)
    · exact .kList h1 h2
  | cell h1 =>
    obtain ⟨vs, e⟩ := c.live (List.mem_of_getElem? h1)
    exact .base (.lst e)
  | dicS h1 h2 h3 => exact .base (.dK h2)
  | dicN => cases n
theorem tyName_ok (y : Ty) : bootBuiltins (Str.ofString (tyName y)) = some (.type (tyName y)) := by cases y <;> decide +kernel
theorem tyName_blt (y : Ty) : Str.ofString (tyName y) ∈ bltNames ∧ (Str.ofString (tyName y) ≠ ("__name__" : Str)) ∧ (Str.ofString (tyName y) == ("__debug__" : Str)) = false := by cases y <;> decide +kernel
theorem pe_tyName {X : Cx} {y : Ty} {e : Expr} (G : Gd X D F) (h : isTyName X.env.scope y e = true) : PE X e (tC (.ty (tyName y))) := by
  unfold isTyName at h
  split at h
  · rename_i x pos
    obtain ⟨h1, h2⟩ := band h
    have e1 : x = Str.ofString (tyName y) := of_decide_eq_true h1
    subst e1
    obtain ⟨n1, n2, n3⟩ := tyName_blt y
    exact pe_bltn (gl_of h2) (G.blt _ n1) (tyName_ok y) rfl n2 n3
  · cases h
theorem okE_tyName {sc : Scope} {y : Ty} {e : Expr} (h : isTyName sc y e = true) : okE e = true := by
  unfold isTyName at h
  split at h
  · rfl
  · cases h
def tTys : List Ty → TA
  | [] => tNil
  | y :: ys => tCons (tC (.ty (tyName y))) (tTys ys)
theorem pa_tys {X : Cx} (G : Gd X D F) : ∀ {ys : List Ty} {es : List Expr}, isTyNames X.env.scope ys es = true → PA X es (tTys ys)
  | [], [], _ => pa_nil
  | [], _ :: _, h => by cases h
  | _ :: _, [], h => by cases h
  | y :: ys, e :: es, h => by
    obtain ⟨h1, h2⟩ := band (show (isTyName _ y e && isTyNames _ ys es) = true from h)
    exact pa_cons (pe_tyName G h1) (pa_tys G h2) (starEach_ok (okE_tyName h1))
theorem tTys_run {σ : L2.St} {H : Hp} {Q : List V → Hp → Prop} : ∀ {ys : List Ty}, Q (ys.map fun y => V.ty (tyName y)) H → tTys ys σ H Q
  | [], h => h
  | y :: ys, h => tTys_run (ys := ys) (Q := fun xs H2 => Q (V.ty (tyName y) :: xs) H2) h
theorem kitAny_T {K : PySem.W.Frag} (t : T) : ∀ ys : List Ty, PySem.W.kitAny K (.type (tyOfT t)) (ys.map fun y => Value.type (tyName y)) = some (ys.any fun y => isTy t y)
  | [] => rfl
  | y :: ys => by
    refine kitAny_cons (b := isTy t y) (kit_ty (kit_T t y)) (fun e => ?_) fun e => ?_
    · rw [List.any_cons, e]
      exact kitAny_T t ys
    · rw [List.any_cons, e]; rfl
theorem clsV_T : ∀ ys : List Ty, Paired ClsV (ys.map fun y => V.ty (tyName y)) (ys.map fun y => Value.type (tyName y))
  | [] => .nil
  | y :: ys => .cons (.ty _) (clsV_T ys)
theorem se_isi {a : E} {tys : List Ty} (ha : SE D F a) : SE D F (.isi a tys) := by
  intro X G e σ ρ B H g g' env t fl S hc he
  unfold evalE at he
  obtain ⟨x, g1, ea, he⟩ := Out.bind_eq he
  split at he
  · cases he
  · rename_i hn
    have hn : noTy x.1 = false := by simpa using hn
    cases he
    unfold chkE at hc
    split at hc
    · rename_i n p a' t' pos
      obtain ⟨c123, c4⟩ := band hc
      obtain ⟨c12, ca⟩ := band c123
      obtain ⟨c1, c2⟩ := band c12
      have en : n = "isinstance" := of_decide_eq_true c1
      subst en
      have mi : X.mg "isinstance" = none := G.blt _ (by decide)
      have sa := okE_chk ca
      split at c4
      · rename_i yn yp y
        have oy := okE_tyName c4
        refine wE.of (pe_callB call_isi (gl_of c2) mi PyProof.Rows.boot_isinstance (pa_cons (wE.pe X a') (pa_cons (pe_tyName G c4) pa_nil (starEach_ok oy)) (starEach_ok sa)) (by decide) (by decide) (starEach_ok sa) (noStar fun e he => by
          rw [List.mem_singleton.mp he]; exact oy)) ?_
        refine (ha X G a' σ ρ B H g _ env x.1 x.2 S ca ea).mono fun v H1 q => ?_
        have bs := q.base
        obtain ⟨r, A, kp, hr, cl, h, hA⟩ := q
        refine ⟨v, .ty (tyName y), _, _, _, rfl, .ty _, tyX_of h.sh cl hn, kit_ty (kit_T x.1 y), ?_⟩
        have e : ([y].any fun y => isTy x.1 y) = isTy x.1 y := by simp
        rw [e]
        exact bs.bl _
      · rename_i ts k tp
        obtain ⟨c5, c6⟩ := band c4
        refine wE.of (pe_callB call_isiT (gl_of c2) mi PyProof.Rows.boot_isinstance (pa_cons (wE.pe X a') (pa_cons (pe_tup (pa_tys G c5)) pa_nil (starEach_ok rfl)) (starEach_ok sa)) (by decide) (by decide) (starEach_ok sa) (noStar fun e he => by
          rw [List.mem_singleton.mp he]; rfl)) ?_
        refine (ha X G a' σ ρ B H g _ env x.1 x.2 S ca ea).mono fun v H1 q => ?_
        refine tTys_run ⟨?_, fun p np => ?_⟩
        · rw [List.length_map]
          have := of_decide_eq_true c6
          exact small_len (by omega)
        · have bs : Base X.w X.K ρ H g' (upd H1 p (.tup (tys.map fun y => V.ty (tyName y)))) := by
            obtain ⟨r, kp, hr, cl⟩ := q.base
            exact ⟨r, kp.trans (Keep.upd np), hr, cl.fresh np⟩
          obtain ⟨r, A, kp, hr, cl, h, hA⟩ := q
          exact ⟨v, p, _, _, _, _, rfl, upd_same, clsV_T tys, tyX_of (h.sh.mv (Mv.fresh np) (by simp)) (cl.fresh np) hn, kitAny_T x.1 tys, bs.bl _⟩
      · cases c4
    · cases hc
end Fx
end

section
set_option Elab.async false
set_option linter.all false
set_option maxRecDepth 100000
/-! Fx15: places, ranges as lists, built-ins. -/
namespace Fx
open PySem PySem.Spec PyProof.Rows L2
variable {D : Dec} {F : Call}

theorem intV_of {w : World} {K : PySem.W.Frag} {ρ : List Addr} {B : Addr → Prop} {H : Hp} {o : Bool} : ∀ {vs : List V} {ts : List T} {A : List Addr} {is : List Int}, Rs w K ρ B H o vs ts A → intsOf ts = some is → vs = is.map V.int
  | _, _, _, is, .nil, e => by
    cases e
    rfl
  | _, _, _, is, .cons (t := t) (ts := ts) h1 h2, e => by
    cases t with
    | int i =>
      obtain ⟨js, e1, e2⟩ := Option.map_eq_some_iff.mp (show (intsOf ts).map (i :: ·) = some is from e)
      subst e2
      rw [h1.int_inv, intV_of h2 e1]
      rfl
    | _ => cases e
theorem okB (b : Bi) (n : Str) (h : biName b = some n) : n ≠ ("__name__" : Str) ∧ (n == ("__debug__" : Str)) = false ∧ n ∈ bltNames := by
  cases b <;> first | (cases h; decide +kernel) | cases h
theorem isNameE_of {X : Cx} {e : Expr} {n : Str} (h : isNameE e n X.env.scope = true) : ∃ pos, e = .Name n pos ∧ Gl X n := by
  unfold isNameE at h
  split at h
  · obtain ⟨h1, h2⟩ := band h
    have e := of_decide_eq_true h1
    subst e
    exact ⟨_, rfl, gl_of h2⟩
  · cases h
/-- the parts of a built-in's check -/
theorem chk_bi {N : List Str} {sc : Scope} {b : Bi} {n : Str} {es : Es} {e : Expr} (hn : biName b = some n) (h : chkE D N sc (.bi b es) e = true) :
    ∃ p e' r pos, e = .Call (.Name n p) (e' :: r) [] pos ∧ isGlN sc n = true ∧ chkEs D N sc es (e' :: r) = true := by
  unfold chkE at h
  split at h
  · rename_i x p es' pos
    obtain ⟨h1, h2⟩ := band h
    rw [hn] at h2
    obtain ⟨h23, h4⟩ := band h2
    obtain ⟨h2, h3⟩ := band h23
    have e := of_decide_eq_true h2
    subst e
    have h5 := of_decide_eq_true h4
    cases es' with
    | nil => simp at h5
    | cons e' r => exact ⟨p, e', r, pos, rfl, h1, h3⟩
  · rename_i o x apos pos
    split at h
    · cases hn
    · cases h
  · cases h
theorem RFs.one {w : World} {K : PySem.W.Frag} {ρ : List Addr} {B : Addr → Prop} {H : Hp} {vs : List V} {x : T × Nat} {A : List Addr} (h : RFs w K ρ H B vs [x] A) : ∃ v, vs = [v] ∧ RF w K ρ B H v x.1 x.2 A := by
  have hl := h.length
  cases vs with
  | nil => simp at hl
  | cons v r =>
    cases r with
    | nil => exact ⟨v, rfl, h.inv1⟩
    | cons _ _ => simp at hl
theorem call_lenD {X : Cx} : CallR X (.builtin "len") (fun xs H Q => (∃ x n, xs = [x] ∧ LenV X.K x H n ∧ Q (.int n) H) ∨ ∃ a kvs, xs = [.ref a] ∧ H a = some (.dK kvs) ∧ Q (.int (kvs.length : Nat)) H) := by
  intro pins s σ H xs us Q I r h
  rcases h with h | ⟨a, kvs, rfl, ha, q⟩
  · exact call_len pins s σ H xs us Q I r h
  · obtain ⟨u, rfl, ru⟩ := r.one
    cases ru
    exact d_len I (Rd.of ha) fun t s' I' => ⟨.int _, H, I', ⟨_, rfl⟩, q⟩
theorem lenV_of {w : World} {K : PySem.W.Frag} {ρ : List Addr} {B : Addr → Prop} {H : Hp} {v : V} {t : T} {f : Nat} {u : T × Nat} (r : R w K ρ B H false v t []) (e : biLen [(t, f)] = some u) : ∃ n : Nat, (LenV K v H n ∨ ∃ a kvs, v = .ref a ∧ H a = some (.dK kvs) ∧ n = kvs.length) ∧ u = (.int n, 2) := by
  cases r with
  | tup h1 h2 => cases e; exact ⟨_, .inl (.inr ⟨_, h1, rfl⟩), by rw [h2.length]⟩
  | lst0 h1 h2 h3 => cases e; exact ⟨_, .inl (.inl ⟨_, SqL.of h2, rfl⟩), by rw [h3.length]⟩
  | fro h1 h2 => cases e; exact ⟨_, .inl (.inl ⟨_, h1.sq, rfl⟩), by rw [h2.length]⟩
  | dicS h1 h2 h3 => cases e; exact ⟨_, .inr ⟨_, _, rfl, h2, rfl⟩, by simp⟩
  | str s h =>
    simp only [biLen] at e
    split at e
    · rename_i hz
      cases e
      exact ⟨_, .inl ⟨by rw [str_len]; exact hz, rfl⟩, by rw [str_len]⟩
    · cases e
  | _ => cases e
theorem evalBi {env : Env} {b : Bi} {es : Es} {g g' : List T} {t : T} {fl : Nat} (he : evalE F env (.bi b es) g = .ok (t, fl) g') : ∃ rs, evalEs F env es g = .ok rs g' ∧ biV b rs = some (t, fl) := by
  unfold evalE at he
  obtain ⟨rs, g1, ea, he⟩ := Out.bind_eq he
  obtain ⟨hf, rfl⟩ := Out.of_eq he
  exact ⟨rs, ea, hf⟩
/-- a call of a built-in function by name -/
theorem wE_blt {X : Cx} {n : Str} {id : String} {p pos : Pos} {e' : Expr} {r' : List Expr} {σ : L2.St} {ρ : List Addr} {B : Addr → Prop} {H : Hp} {g g' : List T} {env : Env} {es : Es} {rs : List (T × Nat)} {t : T} {fl : Nat} {rd : List V → Hp → VK → Prop}
    (hes : SEs D F es) (G : Gd X D F) (S : Sit X.w X.K ρ B H g env σ) (c1 : isGlN X.env.scope n = true) (c2 : chkEs D X.N X.env.scope es (e' :: r') = true) (ea : evalEs F env es g = .ok rs g') (hb : n ∈ bltNames) (n1 : n ≠ ("__name__" : Str)) (n2 : (n == ("__debug__" : Str)) = false)
    (hv : (bootBuiltins n = some (.builtin id) ∧ CallR X (.builtin id) rd) ∨ (bootBuiltins n = some (.type id) ∧ CallR X (.type id) rd))
    (k : ∀ vs H', PostL X.w X.K ρ B H rs g' vs H' → Fit X.K H' → rd vs H' (Post X.w X.K ρ B H t fl g')) : wE X (.Call (.Name n p) (e' :: r') [] pos) σ H (Post X.w X.K ρ B H t fl g') := by
  have oks := chkEs_ok c2
  have run : tCB rd (wA X (e' :: r')) σ H (Post X.w X.K ρ B H t fl g') := ((hes X G _ σ ρ B H g g' env rs S c2 ea).mono fun vs H' q f => k vs H' q f).fits
  rcases hv with ⟨hv, hc⟩ | ⟨hv, hc⟩
  · exact wE.of (pe_callB hc (gl_of c1) (G.blt _ hb) hv (wA.pa X (e' :: r')) n1 n2 (starEach_ok (oks e' (by simp))) (noStar fun x hx => oks x (by simp [hx]))) run
  · exact wE.of (pe_callTy hc (gl_of c1) (G.blt _ hb) hv (wA.pa X (e' :: r')) n1 n2 (starEach_ok (oks e' (by simp))) (noStar fun x hx => oks x (by simp [hx]))) run
theorem post_lstH {w : World} {K : PySem.W.Frag} {ρ r : List Addr} {B : Addr → Prop} {H H' : Hp} {g g' : List T} {env : Env} {σ : L2.St} {p : Addr} {fl : Nat} {rs : List (T × Nat)} {vs ws : List V} {ts : List T} {A : List Addr} (S : Sit w K ρ B H g env σ)
    (kp : Keep ρ H H') (hr : ∀ a ∈ r, H a = none) (c : Cells w K (ρ ++ r) H' g') (h : RFs w K (ρ ++ r) H' (fun a => B a ∨ a ∈ r) vs rs A) (hA : ∀ a ∈ A, H a = none) (np : H' p = none)
    (k : (fl = 2 ∧ ∃ A'', A''.Sublist A ∧ Rs w K (ρ ++ r) (fun a => B a ∨ a ∈ r) H' true ws ts A'') ∨ (fl = 1 ∧ Rs w K (ρ ++ r) (fun a => B a ∨ a ∈ r) H' false ws ts [])) :
    Post w K ρ B H (.lst ts) fl g' (.ref p) (upd H' p (.lst ws)) := by
  have hp := PostL.free S ⟨r, A, kp, hr, c, h, hA⟩ np
  have nr : p ∉ r := fun z => by
    obtain ⟨vs, y⟩ := c.live (List.mem_append.mpr (.inr z))
    rw [np] at y; cases y
  have nB : ¬ (B p ∨ p ∈ r) := fun z => by
    rcases z with z | z
    · exact S.badT p z hp
    · exact nr z
  rcases k with ⟨rfl, A2, sub, q2⟩ | ⟨rfl, q2⟩
  · have nA : p ∉ A2 := fun z => h.there p (sub.subset z) np
    have nb2 : ∀ a ∈ A2, ¬ (B a ∨ a ∈ r) := fun a ha => h.nb a (sub.subset ha)
    refine ⟨r, p :: A2, kp.trans (Keep.upd np), hr, c.fresh np, .inr (.inr ⟨rfl, .lst2 upd_same (q2.mv (Mv.fresh np) nb2), List.nodup_cons.mpr ⟨nA, h.nodup.sublist sub⟩, fun a ha => ?_⟩), fun a ha => ?_⟩
    · rcases List.mem_cons.mp ha with rfl | ha
      · exact nB
      · exact nb2 a ha
    · rcases List.mem_cons.mp ha with rfl | ha
      · exact hp
      · exact hA a (sub.subset ha)
  · refine ⟨r, [p], kp.trans (Keep.upd np), hr, c.fresh np, .inr (.inl ⟨rfl, p, rfl, rfl, nB, .lst upd_same (q2.mv (Mv.freshB np) (by simp))⟩), fun a ha => ?_⟩
    rw [List.mem_singleton.mp ha]
    exact hp
theorem se_len {es : Es} (hes : SEs D F es) : SE D F (.bi .len es) := by
  intro X G e σ ρ B H g g' env t fl S hc he
  obtain ⟨p, e', r, pos, rfl, c1, c2⟩ := chk_bi (b := .len) rfl hc
  obtain ⟨rs, ea, hf⟩ := evalBi he
  refine wE_blt hes G S c1 c2 ea (by decide) (by decide) (by decide) (.inl ⟨PySem.boot_len, call_lenD⟩) fun vs H' q z => ?_
  have key : ∃ x, rs = [x] := by
    replace hf : biLen rs = some (t, fl) := hf
    unfold biLen at hf
    split at hf <;> first | exact ⟨_, rfl⟩ | cases hf
  obtain ⟨x, rfl⟩ := key
  have bs := q.base
  obtain ⟨r, A, kp, hr, cl, h, hA⟩ := q
  obtain ⟨v, rfl, f1⟩ := h.one
  obtain ⟨n, h1, h2⟩ := lenV_of f1.sh (u := (t, fl)) (f := x.2) hf
  cases h2
  rcases h1 with h1 | ⟨a, kvs, rfl, h1, rfl⟩
  · exact .inl ⟨v, n, rfl, h1, bs.int _⟩
  · exact .inr ⟨a, kvs, rfl, h1, bs.int _⟩
theorem se_int1 {es : Es} (hes : SEs D F es) : SE D F (.bi .int1 es) := by
  intro X G e σ ρ B H g g' env t fl S hc he
  obtain ⟨p, e', r, pos, rfl, c1, c2⟩ := chk_bi (b := .int1) rfl hc
  obtain ⟨rs, ea, hf⟩ := evalBi he
  refine wE_blt hes G S c1 c2 ea (by decide) (by decide) (by decide) (.inr ⟨PyProof.Rows.boot_int, call_int1⟩) fun vs H' q z => ?_
  replace hf : biInt1 rs = some (t, fl) := hf
  unfold biInt1 at hf
  split at hf
  · cases hf
    have bs := q.base
    obtain ⟨r, A, kp, hr, cl, h, hA⟩ := q
    obtain ⟨v, rfl, f1⟩ := h.one
    have e1 := f1.sh.int_inv
    subst e1
    exact .inl ⟨_, rfl, bs.int _⟩
  · cases hf
theorem se_max2 {es : Es} (hes : SEs D F es) : SE D F (.bi .max2 es) := by
  intro X G e σ ρ B H g g' env t fl S hc he
  obtain ⟨p, e', r, pos, rfl, c1, c2⟩ := chk_bi (b := .max2) rfl hc
  obtain ⟨rs, ea, hf⟩ := evalBi he
  refine wE_blt hes G S c1 c2 ea (by decide) (by decide) (by decide) (.inl ⟨PyProof.Rows.boot_max, call_max2 G.calm⟩) fun vs H' q z => ?_
  replace hf : biMax2 rs = some (t, fl) := hf
  unfold biMax2 at hf
  split at hf
  · rename_i i f j f'
    cases hf
    have bs := q.base
    obtain ⟨r, A, kp, hr, cl, h, hA⟩ := q
    have hl := h.length
    match vs, hl with
    | [v, u], _ =>
      have e1 := h.r1.int_inv
      have e2 := h.r2.int_inv
      subst e1
      subst e2
      exact ⟨i, j, rfl, bs.int _⟩
  · cases hf
theorem se_sumI {es : Es} (hes : SEs D F es) : SE D F (.bi .sumI es) := by
  intro X G e σ ρ B H g g' env t fl S hc he
  obtain ⟨p, e', r, pos, rfl, c1, c2⟩ := chk_bi (b := .sumI) rfl hc
  obtain ⟨rs, ea, hf⟩ := evalBi he
  refine wE_blt hes G S c1 c2 ea (by decide) (by decide) (by decide) (.inl ⟨PyProof.Rows.boot_sum, cr_sum G.calm⟩) fun vs H' q z => ?_
  replace hf : biSumI rs = some (t, fl) := hf
  unfold biSumI at hf
  split at hf
  · rename_i ts f
    obtain ⟨is, e1, e2⟩ := Option.map_eq_some_iff.mp hf
    cases e2
    have bs := q.base
    obtain ⟨r, A, kp, hr, cl, h, hA⟩ := q
    obtain ⟨v, rfl, f1⟩ := h.one
    obtain ⟨a, ws, rfl, _, hl, r1⟩ := f1.sh.lst_inv
    have := intV_of r1 e1
    subst this
    exact ⟨a, is, rfl, SqL.of hl, bs.int _⟩
  · cases hf
theorem se_lis {es : Es} (hes : SEs D F es) : SE D F (.bi .lis es) := by
  intro X G e σ ρ B H g g' env t fl S hc he
  obtain ⟨p, e', r, pos, rfl, c1, c2⟩ := chk_bi (b := .lis) rfl hc
  obtain ⟨rs, ea, hf⟩ := evalBi he
  refine wE_blt hes G S c1 c2 ea (by decide) (by decide) (by decide) (.inr ⟨PyProof.Rows.boot_list, call_list_of⟩) fun vs H' q z => ?_
  replace hf : biLis rs = some (t, fl) := hf
  unfold biLis at hf
  split at hf
  · rename_i ts f
    cases hf
    obtain ⟨r, A, kp, hr, cl, h, hA⟩ := id q
    obtain ⟨v, rfl, f1⟩ := h.one
    obtain ⟨a, ws, rfl, _, hl, r1⟩ := f1.sh.lst_inv
    refine ⟨a, ws, rfl, .inl (SqL.of hl), fun np hnp => post_lst S q hnp fun ρ' B' A' z' => ?_⟩
    have f1 := z'.inv1
    simp only at f1
    by_cases hf2 : f = 2
    · rw [hf2] at f1
      obtain ⟨m1, ws1, A1', e3, h3, rfl, k3⟩ := f1.lst2
      cases e3
      rw [hl] at h3
      cases h3
      rw [if_pos (.inl hf2)]
      exact .inl ⟨rfl, _, List.sublist_cons_self _ _, k3⟩
    · obtain ⟨m1, ws1, e3, _, h3, k3⟩ := f1.sh.lst_inv
      cases e3
      rw [hl] at h3
      cases h3
      by_cases hfl : T.flats ts = true
      · rw [if_pos (.inr hfl)]
        exact .inl ⟨rfl, [], List.nil_sublist _, (Rs.flat k3 hfl).1⟩
      · rw [if_neg (fun z => z.elim hf2 hfl)]
        exact .inr ⟨rfl, k3⟩
  · rename_i ts f
    cases hf
    obtain ⟨r, A, kp, hr, cl, h, hA⟩ := id q
    obtain ⟨v, rfl, f1⟩ := h.one
    simp only at f1
    by_cases hf2 : f = 2
    · rw [hf2] at f1
      obtain ⟨a, ws, rfl, hl, r1⟩ := f1.own2.tup_inv
      refine ⟨a, ws, rfl, .inr hl, fun np hnp => ?_⟩
      rw [if_pos (.inl hf2)]
      exact post_lstH S kp hr cl h hA hnp (.inl ⟨rfl, _, by simp, r1.weak fun a z => z⟩)
    · obtain ⟨a, ws, rfl, hl, r1⟩ := f1.sh.tup_inv
      refine ⟨a, ws, rfl, .inr hl, fun np hnp => ?_⟩
      by_cases hfl : T.flats ts = true
      · rw [if_pos (.inr hfl)]
        exact post_lstH S kp hr cl h hA hnp (.inl ⟨rfl, [], List.nil_sublist _, (Rs.flat r1 hfl).1⟩)
      · rw [if_neg (fun z => z.elim hf2 hfl)]
        exact post_lstH S kp hr cl h hA hnp (.inr ⟨rfl, r1⟩)
  · cases hf
theorem se_bits {es : Es} (hes : SEs D F es) (he1 : ∀ a, es = .cons a .nil → SE D F a) : SE D F (.bi .bits es) := by
  intro X G e σ ρ B H g g' env t fl S hc he
  obtain ⟨rs, ea, hf⟩ := evalBi he
  unfold chkE at hc
  split at hc
  · obtain ⟨h1, h2⟩ := band hc
    simp only [biName] at h2
    cases h2
  · rename_i o x apos pos
    split at hc
    · rename_i a _
      obtain ⟨h123, h4⟩ := band hc
      obtain ⟨h12, h3⟩ := band h123
      obtain ⟨h1, h2⟩ := band h12
      have ex : x = "bit_length" := of_decide_eq_true h1
      subst ex
      unfold evalEs at ea
      obtain ⟨y, g1, e1, ea⟩ := Out.bind_eq ea
      unfold evalEs at ea
      cases ea
      refine wE.of (pe_bits (wE.pe X o) (base_ok h3) h4) (one (he1 a rfl) G S h2 e1 fun v H' q z => ?_)
      replace hf : biBits [y] = some (t, fl) := hf
      unfold biBits at hf
      split at hf
      · rename_i i f hy
        cases hf
        cases hy
        have bs := q.base
        obtain ⟨r, A, kp, hr, cl, h, hA⟩ := q
        refine ⟨i, h.inv1.sh.int_inv, ?_⟩
        have e2 : ((Builtin.Int.intBits i : Nat) : Int) = (if i = 0 then 0 else (i.natAbs.log2 : Int) + 1) := by
          unfold Builtin.Int.intBits
          by_cases e : i = 0
          · subst e; rfl
          · rw [if_neg e]
            simp [e]
        rw [e2]
        exact bs.int _
      · cases hf
    · cases hc
  · cases hc
end Fx
end

section
set_option Elab.async false
set_option linter.all false
set_option maxRecDepth 100000
/-! Fx16: what loops and comprehensions walk; targets. -/
namespace Fx
open PySem PySem.Spec PyProof.Rows L2
variable {D : Dec} {F : Call}

theorem wE.len {X : Cx} {e : Expr} {σ : L2.St} {H : Hp} {Q : VK} (h : σ.length = X.N.length → wE X e σ H Q) : wE X e σ H Q := fun pins s I => h I.len pins s I
/-- an iterator that yields the trees ts, from H on -/
def ItOk (w : World) (K : PySem.W.Frag) (J : L2.It) (ts : List T) (ρ : List Addr) (B : Addr → Prop) (H : Hp) : Prop :=
  ∀ (ρ' : List Addr) (B' : Addr → Prop) (H' : Hp), Mv ρ ρ' B B' H H' → ∀ i : Nat, (ts.length ≤ i → J.stop i H') ∧
    ∀ t, ts[i]? = some t → J.go i H' ∧ ∀ x H'', J.yld i H' x H'' → (H'' = H' ∨ ∃ p xs, H' p = none ∧ H'' = upd H' p (.tup xs)) ∧ R w K ρ' B' H'' false x t []
def wI (X : Cx) (tg iter : Expr) : TI := fun σ H R => ∀ (pins : List (Addr × Obj)) (s : Shared), L2.Inv X pins σ H s →
  wpAny (model X.prog X.w) X.A (eval iter X.env) (fun v s1 => wpAny (model X.prog X.w) X.A (pyIter v) (PIE X pins σ tg R) X.xe s1) X.xe s
theorem wI.pi (X : Cx) (tg iter : Expr) : PI X tg iter (wI X tg iter) := ⟨fun pins s σ H R I h => h pins s I⟩
theorem wI.of {X : Cx} {tg iter : Expr} {σ : L2.St} {H : Hp} {wi : TI} {R : L2.It → Hp → Prop} (h : PI X tg iter wi) (q : wi σ H R) : wI X tg iter σ H R := fun pins s I => h.run pins s σ H R I q
def PostI (w : World) (K : PySem.W.Frag) (ρ : List Addr) (B : Addr → Prop) (H : Hp) (ts : List T) (g' : List T) : L2.It → Hp → Prop := fun J H' =>
  ∃ r, Keep ρ H H' ∧ (∀ a ∈ r, H a = none) ∧ Cells w K (ρ ++ r) H' g' ∧ ts.length ≤ sizeL ∧ ItOk w K J ts (ρ ++ r) (fun a => B a ∨ a ∈ r) H'
def SI (D : Dec) (F : Call) (c : It) : Prop := ∀ (X : Cx), Gd X D F → ∀ (tg e : Expr) (σ : L2.St) (ρ : List Addr) (B : Addr → Prop) (H : Hp) (g g' : List T) (env : Env) (ts : List T),
  Sit X.w X.K ρ B H g env σ → chkIt D X.N X.env.scope c e = true → itTg c tg = true → evalIt F env c g = .ok ts g' → wI X tg e σ H (PostI X.w X.K ρ B H ts g')

section
variable {w : World} {K : PySem.W.Frag} {ρ : List Addr} {B : Addr → Prop} {H : Hp}
theorem SqL.of_mv {ρ' : List Addr} {B' : Addr → Prop} {H' : Hp} {a : Addr} {vs : List V} (m : Mv ρ ρ' B B' H H') (n : ¬ B a) (e : H a = some (.lst vs)) : SqL K H' a vs := SqL.of (m.keep _ _ e n)
theorem itOk_list {a : Addr} {vs : List V} {ts : List T} (n : ¬ B a) (e : H a = some (.lst vs)) (h : Rs w K ρ B H false vs ts []) : ItOk w K (Itl K a) ts ρ B H := fun ρ' B' H' m i => by
  have e' := m.keep _ _ e n
  have h' := h.mv m (by simp)
  refine ⟨fun hi => ⟨vs, SqL.of e', by rw [h'.length]; exact hi⟩, fun t ht => ?_⟩
  obtain ⟨v, A, hv, rv, _⟩ := h'.at_ ht
  have := rv.nil
  subst this
  refine ⟨⟨vs, v, SqL.of e', hv⟩, fun x H'' y => ?_⟩
  obtain ⟨rfl, y⟩ := y
  refine ⟨.inl rfl, ?_⟩
  have ex := y vs (SqL.of e')
  rw [hv] at ex
  cases ex
  exact rv
theorem itOk_tup {a : Addr} {vs : List V} {ts : List T} (e : SqT K H a vs) (h : Rs w K ρ B H false vs ts []) : ItOk w K (Itt K a) ts ρ B H := fun ρ' B' H' m i => by
  have e' := m.sqT e
  have h' := h.mv m (by simp)
  refine ⟨fun hi => ⟨vs, e', by rw [h'.length]; exact hi⟩, fun t ht => ?_⟩
  obtain ⟨v, A, hv, rv, _⟩ := h'.at_ ht
  have := rv.nil
  subst this
  refine ⟨⟨vs, v, e', hv⟩, fun x H'' y => ?_⟩
  obtain ⟨rfl, y⟩ := y
  refine ⟨.inl rfl, ?_⟩
  have ex := y vs e'
  rw [hv] at ex
  cases ex
  exact rv
theorem itOk_str {s : List Nat} (hs : ∀ c ∈ s, c < 0x110000) : ItOk w K (Its ⟨s.toArray⟩) (s.map fun c => .str [c]) ρ B H := fun ρ' B' H' m i => by
  refine ⟨fun hi => ?_, fun t ht => ?_⟩
  · show s.toArray.size ≤ i
    simpa using hi
  · rw [List.getElem?_map] at ht
    obtain ⟨c, hc, rfl⟩ := Option.map_eq_some_iff.mp ht
    have hlt : i < s.length := (List.getElem?_eq_some_iff.mp hc).1
    refine ⟨by show i < s.toArray.size; simpa using hlt, fun x H'' y => ?_⟩
    obtain ⟨rfl, c', hc', rfl⟩ := y
    refine ⟨.inl rfl, ?_⟩
    have e1 : s[i]? = some c' := by simpa using hc'
    rw [hc] at e1
    cases e1
    exact .str [c] fun d hd => by
      rw [List.mem_singleton.mp hd]
      exact hs c (List.mem_of_getElem? hc)
theorem itOk_rng {lo : Int} {n : Nat} : ItOk w K (Itr lo n) (rangeT lo n) ρ B H := fun ρ' B' H' m i => by
  have hl : (rangeT lo n).length = n := by simp [rangeT]
  refine ⟨fun hi => by show n ≤ i; omega, fun t ht => ?_⟩
  have hlt : i < n := by
    have := (List.getElem?_eq_some_iff.mp ht).1
    omega
  refine ⟨hlt, fun x H'' y => ?_⟩
  obtain ⟨rfl, rfl⟩ := y
  refine ⟨.inl rfl, ?_⟩
  have et : t = .int (lo + (i : Int)) := by
    unfold rangeT at ht
    rw [List.getElem?_map, List.getElem?_range hlt] at ht
    exact (Option.some.inj ht).symm
  rw [et]
  exact .int _
theorem enumT_at {ts : List T} {i : Nat} {t : T} (h : (enumT ts)[i]? = some t) : ∃ u, ts[i]? = some u ∧ t = .tup [.int i, u] := by
  unfold enumT at h
  rw [List.getElem?_map] at h
  obtain ⟨p, hp, rfl⟩ := Option.map_eq_some_iff.mp h
  rw [List.getElem?_zip_eq_some] at hp
  obtain ⟨h1, h2⟩ := hp
  refine ⟨p.2, h2, ?_⟩
  have hlt : i < ts.length := (List.getElem?_eq_some_iff.mp h2).1
  rw [List.getElem?_range hlt] at h1
  rw [← Option.some.inj h1]
theorem enumT_len (ts : List T) : (enumT ts).length = ts.length := by simp [enumT]
theorem itOk_enum {a : Addr} {vs : List V} {ts : List T} (n : ¬ B a) (e : H a = some (.lst vs)) (h : Rs w K ρ B H false vs ts []) : ItOk w K (Ite K a) (enumT ts) ρ B H := fun ρ' B' H' m i => by
  have e' := m.keep _ _ e n
  have h' := h.mv m (by simp)
  refine ⟨fun hi => ⟨vs, SqL.of e', by rw [h'.length, ← enumT_len]; exact hi⟩, fun t ht => ?_⟩
  obtain ⟨u, hu, rfl⟩ := enumT_at ht
  obtain ⟨v, A, hv, rv, _⟩ := h'.at_ hu
  have := rv.nil
  subst this
  refine ⟨⟨vs, v, SqL.of e', hv⟩, fun x H'' y => ?_⟩
  obtain ⟨p, z, rfl, np, rfl, y⟩ := y
  refine ⟨.inr ⟨p, _, np, rfl⟩, ?_⟩
  have ex := y vs (SqL.of e')
  rw [hv] at ex
  cases ex
  exact .tup (SqT.of upd_same) (.cons (A := []) (A' := []) (.int _) (.cons (A := []) (A' := []) (rv.mv (Mv.fresh np) (by simp)) .nil))
theorem itOk_zip {a b : Addr} {vs us : List V} {ts rs : List T} (n : ¬ B a) (e : H a = some (.lst vs)) (h : Rs w K ρ B H false vs ts []) (n2 : ¬ B b) (e2 : H b = some (.lst us)) (h2 : Rs w K ρ B H false us rs []) :
    ItOk w K (Itz K a b) ((ts.zip rs).map fun p => .tup [p.1, p.2]) ρ B H := fun ρ' B' H' m i => by
  have e' := m.keep _ _ e n
  have h' := h.mv m (by simp)
  have e2' := m.keep _ _ e2 n2
  have h2' := h2.mv m (by simp)
  have l1 := h'.length
  have l2 := h2'.length
  refine ⟨fun hi => ⟨vs, us, SqL.of e', SqL.of e2', ?_⟩, fun t ht => ?_⟩
  · rw [List.length_map, List.length_zip] at hi
    omega
  · rw [List.getElem?_map] at ht
    obtain ⟨p, hp, rfl⟩ := Option.map_eq_some_iff.mp ht
    rw [List.getElem?_zip_eq_some] at hp
    obtain ⟨q1, q2⟩ := hp
    obtain ⟨v, A, hv, rv, _⟩ := h'.at_ q1
    have := rv.nil
    subst this
    obtain ⟨u, A, hu, ru, _⟩ := h2'.at_ q2
    have := ru.nil
    subst this
    refine ⟨⟨vs, us, v, u, SqL.of e', SqL.of e2', hv, hu⟩, fun x H'' y => ?_⟩
    obtain ⟨q, z1, z2, rfl, np, rfl, y1, y2⟩ := y
    refine ⟨.inr ⟨q, _, np, rfl⟩, ?_⟩
    have ex := y1 vs (SqL.of e')
    rw [hv] at ex
    cases ex
    have ex := y2 us (SqL.of e2')
    rw [hu] at ex
    cases ex
    exact .tup (SqT.of upd_same) (.cons (A := []) (A' := []) (rv.mv (Mv.fresh np) (by simp)) (.cons (A := []) (A' := []) (ru.mv (Mv.fresh np) (by simp)) .nil))
end

theorem postI_of {X : Cx} {ρ : List Addr} {B : Addr → Prop} {H H' : Hp} {g g' : List T} {env : Env} {σ : L2.St} {x : List (T × Nat)} {vs : List V} {J : L2.It} {ts : List T} (q : PostL X.w X.K ρ B H x g' vs H') (hl : ts.length ≤ sizeL)
    (k : ∀ ρ' B', Rs X.w X.K ρ' B' H' false vs (x.map (·.1)) [] → ItOk X.w X.K J ts ρ' B' H') : PostI X.w X.K ρ B H ts g' J H' := by
  obtain ⟨r, A, kp, hr, c, h, hA⟩ := q
  exact ⟨r, kp, hr, c, hl, k _ _ h.sh⟩
theorem si_seq {e : E} (he : SE D F e) : SI D F (.seq e) := by
  intro X G tg e' σ ρ B H g g' env ts S hc _ hv
  unfold evalIt at hv
  obtain ⟨x, g1, ea, hv⟩ := Out.bind_eq hv
  obtain ⟨hf, rfl⟩ := Out.of_eq hv
  unfold chkIt at hc
  unfold itemsV at hf
  have szl := szL
  split at hf
  · rename_i xs hx
    cases hf
    refine wI.of (pi_list (wE.pe X e')) (one he G S hc ea fun v H' q z => ?_)
    obtain ⟨r, A, kp, hr, cl, h, hA⟩ := id q
    obtain ⟨l, vs, rfl, _, hl, r1⟩ := h.r1.lst_inv' hx
    refine ⟨l, rfl, ⟨vs, SqL.of hl⟩, postI_of (env := env) (g := g) (σ := σ) q ?_ fun ρ' B' z' => ?_⟩
    · have := z.lst _ _ (SqL.of hl)
      rw [← r1.length, szl]; exact this
    · obtain ⟨k1, _⟩ := z'.inv0
      obtain ⟨l', vs', e1, nb, hl', r2⟩ := k1.lst_inv' hx
      cases e1
      exact itOk_list nb hl' r2
  · rename_i xs hx
    cases hf
    refine wI.of (pi_tup (wE.pe X e')) (one he G S hc ea fun v H' q z => ?_)
    obtain ⟨r, A, kp, hr, cl, h, hA⟩ := id q
    have e1 := h.r1
    rw [hx] at e1
    obtain ⟨l, vs, rfl, hl, r1⟩ := e1.tup_inv
    refine ⟨l, rfl, ⟨vs, hl⟩, postI_of (env := env) (g := g) (σ := σ) q ?_ fun ρ' B' z' => ?_⟩
    · have := z.tup _ _ hl
      rw [← r1.length, szl]; exact this
    · obtain ⟨k1, _⟩ := z'.inv0
      replace k1 : R X.w X.K ρ' B' H' false (V.ref l) x.1 [] := k1
      rw [hx] at k1
      obtain ⟨l', vs', e1, hl', r2⟩ := k1.tup_inv
      cases e1
      exact itOk_tup hl' r2
  · rename_i s0 hx
    split at hf
    · rename_i hz
      cases hf
      refine wI.of (pi_str (wE.pe X e')) (one he G S hc ea fun v H' q z => ?_)
      obtain ⟨r, A, kp, hr, cl, h, hA⟩ := id q
      have e1 := h.r1
      rw [hx] at e1
      obtain ⟨rfl, hcs⟩ := e1.str_inv
      exact ⟨_, rfl, postI_of (env := env) (g := g) (σ := σ) q (by rw [List.length_map]; exact hz) fun ρ' B' z' => itOk_str hcs⟩
    · cases hf
  · cases hf
theorem smallI_of {i : Int} (h : smallI i = true) : -(2 ^ 62) ≤ i ∧ i < 2 ^ 62 := by
  obtain ⟨h1, h2⟩ := band h
  exact ⟨of_decide_eq_true h1, of_decide_eq_true h2⟩
theorem si_rng1 {e : E} (he : SE D F e) : SI D F (.rng1 e) := by
  intro X G tg e' σ ρ B H g g' env ts S hc _ hv
  unfold evalIt at hv
  obtain ⟨x, g1, ea, hv⟩ := Out.bind_eq hv
  unfold chkIt at hc
  split at hc
  · rename_i rn a' pos
    obtain ⟨c1, c2⟩ := band hc
    obtain ⟨p, rfl, gl⟩ := isNameE_of c1
    split at hv
    · rename_i i hx
      split at hv
      · rename_i hs
        cases hv
        obtain ⟨s1, s2⟩ := band hs
        obtain ⟨b1, b2⟩ := smallI_of s1
        have oa := okE_chk c2
        refine wI.of (pi_range1 gl (G.blt _ (by decide)) (pa_cons (wE.pe X a') pa_nil (starEach_ok oa)) (starEach_ok oa)) (one he G S c2 ea fun v H' q z => ?_)
        obtain ⟨r, A, kp, hr, cl, h, hA⟩ := id q
        have e1 := h.r1
        rw [hx] at e1
        have e2 := e1.int_inv
        subst e2
        exact ⟨i, rfl, b1, b2, postI_of (env := env) (g := g) (σ := σ) q (by simpa [rangeT] using of_decide_eq_true s2) fun _ _ _ => itOk_rng⟩
      · cases hv
    · cases hv
  · cases hc
theorem si_rng2 {a b : E} (ha : SE D F a) (hb : SE D F b) : SI D F (.rng2 a b) := by
  intro X G tg e' σ ρ B H g g' env ts S hc _ hv
  unfold evalIt at hv
  obtain ⟨x, g1, ea, hv⟩ := Out.bind_eq hv
  obtain ⟨y, g2, eb, hv⟩ := Out.bind_eq hv
  unfold chkIt at hc
  split at hc
  · rename_i rn a' b' pos
    obtain ⟨c12, c3⟩ := band hc
    obtain ⟨c1, c2⟩ := band c12
    obtain ⟨p, rfl, gl⟩ := isNameE_of c1
    split at hv
    · rename_i i j hx hy
      split at hv
      · rename_i hs
        cases hv
        obtain ⟨s12, s3⟩ := band hs
        obtain ⟨s1, s2⟩ := band s12
        obtain ⟨b1, b2⟩ := smallI_of s1
        obtain ⟨b3, b4⟩ := smallI_of s2
        have oa := okE_chk c2
        have ob := okE_chk c3
        refine wI.of (pi_range2 gl (G.blt _ (by decide)) (pa_cons (wE.pe X a') (pa_cons (wE.pe X b') pa_nil (starEach_ok ob)) (starEach_ok oa)) (by rw [starEach_ok oa, starEach_ok ob]; rfl) (starEach_ok ob)) (two ha hb G S c2 c3 ea eb fun v u H' q z => ?_)
        obtain ⟨r, A, kp, hr, cl, h, hA⟩ := id q
        have e1 := h.r1
        rw [hx] at e1
        have e2 := e1.int_inv
        subst e2
        have e1 := h.r2
        rw [hy] at e1
        have e2 := e1.int_inv
        subst e2
        exact ⟨i, j, rfl, ⟨b1, b2, b3, b4⟩, postI_of (env := env) (g := g) (σ := σ) q (by simpa [rangeT] using of_decide_eq_true s3) fun _ _ _ => itOk_rng⟩
      · cases hv
    · cases hv
  · cases hc
theorem si_enum {e : E} (he : SE D F e) : SI D F (.enum e) := by
  intro X G tg e' σ ρ B H g g' env ts S hc ht hv
  have szl := szL
  unfold evalIt at hv
  obtain ⟨x, g1, ea, hv⟩ := Out.bind_eq hv
  unfold chkIt at hc
  split at hc
  · rename_i rn a' pos
    obtain ⟨c1, c2⟩ := band hc
    obtain ⟨p, rfl, gl⟩ := isNameE_of c1
    split at hv
    · rename_i xs hx
      cases hv
      have oa := okE_chk c2
      cases tg with
      | Tuple elts kk tpos =>
        refine wI.of (pi_enum gl (G.blt _ (by decide)) (pa_cons (wE.pe X a') pa_nil (starEach_ok oa)) (starEach_ok oa)) (one he G S c2 ea fun v H' q z => ?_)
        obtain ⟨r, A, kp, hr, cl, h, hA⟩ := id q
        obtain ⟨l, vs, rfl, _, hl, r1⟩ := h.r1.lst_inv' hx
        refine ⟨l, vs, rfl, SqL.of hl, postI_of (env := env) (g := g) (σ := σ) q ?_ fun ρ' B' z' => ?_⟩
        · have := z.lst _ _ (SqL.of hl)
          rw [enumT_len, ← r1.length, szl]; exact this
        · obtain ⟨k1, _⟩ := z'.inv0
          obtain ⟨l', vs', e1, nb, hl', r2⟩ := k1.lst_inv' hx
          cases e1
          rw [hl] at hl'
          cases hl'
          exact itOk_enum nb hl r2
      | _ => cases ht
    · cases hv
  · cases hc
theorem si_zip {a b : E} (ha : SE D F a) (hb : SE D F b) : SI D F (.zip a b) := by
  intro X G tg e' σ ρ B H g g' env ts S hc ht hv
  have szl := szL
  unfold evalIt at hv
  obtain ⟨x, g1, ea, hv⟩ := Out.bind_eq hv
  obtain ⟨y, g2, eb, hv⟩ := Out.bind_eq hv
  unfold chkIt at hc
  split at hc
  · rename_i rn a' b' pos
    obtain ⟨c12, c3⟩ := band hc
    obtain ⟨c1, c2⟩ := band c12
    obtain ⟨p, rfl, gl⟩ := isNameE_of c1
    split at hv
    · rename_i xs ys hx hy
      cases hv
      have oa := okE_chk c2
      have ob := okE_chk c3
      cases tg with
      | Tuple elts kk tpos =>
        refine wI.of (pi_zip gl (G.blt _ (by decide)) (pa_cons (wE.pe X a') (pa_cons (wE.pe X b') pa_nil (starEach_ok ob)) (starEach_ok oa)) (starEach_ok oa) (noStar fun e he => by
          rw [List.mem_singleton.mp he]; exact ob)) (two ha hb G S c2 c3 ea eb fun v u H' q z => ?_)
        obtain ⟨r, A, kp, hr, cl, h, hA⟩ := id q
        obtain ⟨l, vs, rfl, _, hl, r1⟩ := h.r1.lst_inv' hx
        obtain ⟨m, us, rfl, _, hm, r2⟩ := h.r2.lst_inv' hy
        refine ⟨l, m, vs, us, rfl, SqL.of hl, SqL.of hm, postI_of (env := env) (g := g) (σ := σ) q ?_ fun ρ' B' z' => ?_⟩
        · have := z.lst _ _ (SqL.of hl)
          rw [List.length_map, List.length_zip, ← r1.length, szl]
          omega
        · obtain ⟨k1, k2⟩ := z'.inv0
          obtain ⟨k3, _⟩ := k2.inv0
          obtain ⟨l', vs', e1, nb, hl', q1⟩ := k1.lst_inv' hx
          cases e1
          rw [hl] at hl'
          cases hl'
          obtain ⟨l', vs', e1, nb2, hm', q2⟩ := k3.lst_inv' hy
          cases e1
          rw [hm] at hm'
          cases hm'
          exact itOk_zip nb hl q1 nb2 hm q2
      | _ => cases ht
    · cases hv
  · cases hc
end Fx
end

section
set_option Elab.async false
set_option linter.all false
set_option maxRecDepth 100000
/-! Fx17: targets, comprehensions. -/
namespace Fx
open PySem PySem.Spec PyProof.Rows L2
variable {D : Dec} {F : Call}

/-! ### targets -/
def gNs : List Nat → TGs
  | [] => gNil
  | i :: is => gCons (gName i) (gNs is)
def gT (K : PySem.W.Frag) : Tg → TG
  | .one i => gName i
  | .many is => gTup K is.length (gNs is)
theorem tgName_ok {X : Cx} {i : Nat} {e : Expr} {fn : Str → Bool} (nd : X.N.Nodup) (hf : ∀ x, fn x = true → X.fn x = true) (h : tgName X.N X.env.scope i fn e = true) : (∃ x pos, e = .Name x pos ∧ X.N[i]? = some x) ∧ PG X e (gName i) := by
  unfold tgName at h
  split at h
  · rename_i x pos
    obtain ⟨h1, h2⟩ := band h
    have hN := of_decide_eq_true h1
    refine ⟨⟨x, pos, rfl, hN⟩, ?_⟩
    split at h2
    · rename_i hk
      exact pg_name nd hN (.inl hk) (.inr hk)
    · rename_i hk
      exact pg_name nd hN (.inr hk) (.inl (hf x h2))
    · cases h2
  · cases h
theorem tgNames_ok {X : Cx} {fn : Str → Bool} (nd : X.N.Nodup) (hf : ∀ x, fn x = true → X.fn x = true) : ∀ {is : List Nat} {es : List Expr}, tgNames X.N X.env.scope fn is es = true →
    PGs X es (gNs is) ∧ (assignEach es X.env).length = is.length ∧ (assignEach es X.env).findIdx? (·.1) = none
  | [], [], _ => ⟨pgs_nil, rfl, rfl⟩
  | [], _ :: _, h => by cases h
  | _ :: _, [], h => by cases h
  | i :: is, e :: es, h => by
    obtain ⟨h1, h2⟩ := band (show (tgName _ _ i fn e && tgNames _ _ fn is es) = true from h)
    obtain ⟨⟨x, pos, rfl, _⟩, h3⟩ := tgName_ok nd hf h1
    obtain ⟨h4, h5, h6⟩ := tgNames_ok nd hf h2
    refine ⟨pgs_cons h3 h4 rfl, ?_, ?_⟩
    · show (assignEach es X.env).length + 1 = is.length + 1
      rw [h5]
    · show List.findIdx? _ ((false, assign (.Name x pos) X.env) :: assignEach es X.env) = none
      rw [List.findIdx?_cons, h6]
      rfl
theorem tg_pg {X : Cx} {tg : Tg} {e : Expr} {fn : Str → Bool} (nd : X.N.Nodup) (hc : X.calm = true) (hf : ∀ x, fn x = true → X.fn x = true) (h : chkTg X.N X.env.scope fn tg e = true) : PG X e (gT X.K tg) := by
  cases tg with
  | one i => exact (tgName_ok nd hf h).2
  | many is =>
    unfold chkTg at h
    simp only at h
    split at h
    · rename_i es k pos
      obtain ⟨h1, _⟩ := band h
      obtain ⟨h4, h5, h6⟩ := tgNames_ok nd hf h1
      exact pg_tup hc h4 h5 h6
    · cases h
def tgIs : Tg → List Nat
  | .one i => [i]
  | .many is => is
theorem tgName_lt {N : List Str} {sc : Scope} {i : Nat} {fn : Str → Bool} {e : Expr} (h : tgName N sc i fn e = true) : i < N.length := by
  unfold tgName at h
  split at h
  · obtain ⟨h1, h2⟩ := band h
    exact (List.getElem?_eq_some_iff.mp (of_decide_eq_true h1)).1
  · cases h
theorem tgNames_lt {N : List Str} {sc : Scope} {fn : Str → Bool} : ∀ {is : List Nat} {es : List Expr}, tgNames N sc fn is es = true → ∀ i ∈ is, i < N.length
  | [], _, _, i, hi => by simp at hi
  | _ :: _, [], h, _, _ => by cases h
  | j :: is, e :: es, h, i, hi => by
    obtain ⟨h1, h2⟩ := band (show (tgName _ _ j fn e && tgNames _ _ fn is es) = true from h)
    rcases List.mem_cons.mp hi with rfl | hi
    · exact tgName_lt h1
    · exact tgNames_lt h2 i hi
theorem chkTg_lt {N : List Str} {sc : Scope} {fn : Str → Bool} {tg : Tg} {e : Expr} (h : chkTg N sc fn tg e = true) : ∀ i ∈ tgIs tg, i < N.length := by
  cases tg with
  | one i =>
    intro j hj
    rw [List.mem_singleton.mp hj]
    exact tgName_lt h
  | many is =>
    unfold chkTg at h
    simp only at h
    split at h
    · obtain ⟨h1, _⟩ := band h
      exact tgNames_lt h1
    · cases h
/-- the environment is borne by the slots -/
def EnvOk (w : World) (K : PySem.W.Frag) (ρ : List Addr) (B : Addr → Prop) (H : Hp) (env : Env) (σ : L2.St) : Prop :=
  ∀ (i : Nat) (t : T), env.getD i none = some t → ∃ v, σ[i]? = some (some v) ∧ R w K ρ B H false v t []
section
variable {w : World} {K : PySem.W.Frag} {ρ ρ' : List Addr} {B B' : Addr → Prop} {H H' : Hp} {env env' : Env} {σ : L2.St}
theorem EnvOk.mv (m : Mv ρ ρ' B B' H H') (h : EnvOk w K ρ B H env σ) : EnvOk w K ρ' B' H' env σ := fun i t e => by
  obtain ⟨v, h1, h2⟩ := h i t e
  exact ⟨v, h1, h2.mv m (by simp)⟩
theorem EnvOk.set {i : Nat} {v : V} {t : T} (h : EnvOk w K ρ B H env σ) (hi : i < σ.length) (r : R w K ρ B H false v t []) : EnvOk w K ρ B H (env.set i (some t)) (σ.set i (some v)) := fun j u e => by
  by_cases hj : i = j
  · subst hj
    refine ⟨v, List.getElem?_set_self hi, ?_⟩
    by_cases hl : i < env.length
    · rw [List.getD_eq_getElem?_getD, List.getElem?_set_self hl] at e
      cases e
      exact r
    · rw [List.getD_eq_getElem?_getD, List.getElem?_eq_none (by simpa using hl)] at e
      cases e
  · rw [List.getD_eq_getElem?_getD, List.getElem?_set_ne hj, ← List.getD_eq_getElem?_getD] at e
    obtain ⟨v', h1, h2⟩ := h j u e
    exact ⟨v', by rw [List.getElem?_set_ne hj]; exact h1, h2⟩
theorem EnvOk.none {i : Nat} (h : EnvOk w K ρ B H env σ) : EnvOk w K ρ B H (env.set i none) (σ.set i none) := fun j u e => by
  by_cases hj : i = j
  · subst hj
    by_cases hl : i < env.length
    · rw [List.getD_eq_getElem?_getD, List.getElem?_set_self hl] at e
      cases e
    · rw [List.getD_eq_getElem?_getD, List.getElem?_eq_none (by simpa using hl)] at e
      cases e
  · rw [List.getD_eq_getElem?_getD, List.getElem?_set_ne hj, ← List.getD_eq_getElem?_getD] at e
    obtain ⟨v', h1, h2⟩ := h j u e
    exact ⟨v', by rw [List.getElem?_set_ne hj]; exact h1, h2⟩
theorem EnvOk.wipe (h : EnvOk w K ρ B H env σ) : ∀ own : List Nat, EnvOk w K ρ B H (wipeE env own) (L2.wipe σ own)
  | [] => h
  | i :: own => (h.wipe own).none
end
theorem wipe_set {σ : L2.St} {i : Nat} {o : Option V} : ∀ {vs : List Nat}, i ∈ vs → L2.wipe (σ.set i o) vs = L2.wipe σ vs
  | [], h => by simp at h
  | v :: vs, h => by
    unfold L2.wipe
    by_cases hm : i ∈ vs
    · rw [wipe_set hm]
    · have e : i = v := by
        rcases List.mem_cons.mp h with h | h
        · exact h
        · exact absurd h hm
      subst e
      refine List.ext_getElem? fun j => ?_
      by_cases hj : i = j
      · subst hj
        rw [List.getElem?_set, List.getElem?_set, wipe_length, wipe_length, List.length_set, if_pos rfl, if_pos rfl]
      · rw [List.getElem?_set_ne hj, List.getElem?_set_ne hj]
        by_cases hj2 : j ∈ vs
        · have : ∀ (τ : L2.St), τ.length = σ.length → (L2.wipe τ vs)[j]? = if j < σ.length then some none else none := fun τ ht => by
            clear h hm
            induction vs with
            | nil => simp at hj2
            | cons u us ih =>
              unfold L2.wipe
              by_cases hu : u = j
              · subst hu
                rw [List.getElem?_set, if_pos rfl, wipe_length, ht]
              · rw [List.getElem?_set_ne hu]
                exact ih (by
                  rcases List.mem_cons.mp hj2 with h | h
                  · exact absurd h.symm hu
                  · exact h)
          rw [this _ (List.length_set ..), this _ rfl]
        · rw [wipe_out hj2, wipe_out hj2, List.getElem?_set_ne hj]
theorem wipe_wipe {σ : L2.St} {vs : List Nat} : ∀ us : List Nat, (∀ i ∈ us, i ∈ vs) → L2.wipe (L2.wipe σ us) vs = L2.wipe σ vs
  | [], _ => rfl
  | u :: us, h => by
    show L2.wipe ((L2.wipe σ us).set u none) vs = _
    rw [wipe_set (h u (by simp)), wipe_wipe us fun i hi => h i (by simp [hi])]
/-- a target's store -/
theorem tg_run {w : World} {K : PySem.W.Frag} {ρ : List Addr} {B : Addr → Prop} {H : Hp} {env env' : Env} {σ : L2.St} {tg : Tg} {x : V} {t : T} {Q : L2.St → Hp → Prop} (hl : ∀ i ∈ tgIs tg, i < σ.length) (h : EnvOk w K ρ B H env σ) (r : R w K ρ B H false x t []) (e : bindTg tg t env = some env')
    (k : ∀ σ', EnvOk w K ρ B H env' σ' → σ'.length = σ.length → (∀ own, (∀ i ∈ tgIs tg, i ∈ own) → L2.wipe σ' own = L2.wipe σ own) → (∀ j, j ∉ tgIs tg → σ'[j]? = σ[j]?) → Q σ' H) : gT K tg x σ H Q := by
  cases tg with
  | one i =>
    cases e
    refine k _ (h.set (hl i (by simp [tgIs])) r) (List.length_set ..) (fun own ho => wipe_set (ho i (by simp [tgIs]))) fun j hj => ?_
    rw [List.getElem?_set_ne fun z => hj (by simp [tgIs, z])]
  | many is =>
    unfold bindTg at e
    simp only at e
    split at e
    · rename_i ts
      split at e
      · rename_i hlen
        cases e
        obtain ⟨a, vs, rfl, hT, rs⟩ := r.tup_inv
        refine ⟨a, vs, rfl, hT, by rw [rs.length, hlen], ?_⟩
        have go : ∀ (is : List Nat) (ts : List T) (vs : List V) (env : Env) (σ : L2.St), ts.length = is.length → (∀ i ∈ is, i < σ.length) → EnvOk w K ρ B H env σ → Rs w K ρ B H false vs ts [] →
            (∀ σ', EnvOk w K ρ B H ((is.zip ts).foldl (fun e p => e.set p.1 (some p.2)) env) σ' → σ'.length = σ.length → (∀ own, (∀ i ∈ is, i ∈ own) → L2.wipe σ' own = L2.wipe σ own) → (∀ j, j ∉ is → σ'[j]? = σ[j]?) → Q σ' H) → gNs is vs σ H Q := by
          intro is
          induction is with
          | nil =>
            intro ts vs env σ h1 _ h2 h3 k
            cases ts with
            | nil =>
              cases h3
              exact ⟨rfl, k σ h2 rfl (fun _ _ => rfl) fun _ _ => rfl⟩
            | cons _ _ => simp at h1
          | cons i is ih =>
            intro ts vs env σ h1 hb h2 h3 k
            cases ts with
            | nil => simp at h1
            | cons t ts =>
              cases vs with
              | nil => cases h3
              | cons v vs =>
                obtain ⟨r1, r2⟩ := h3.inv0
                refine ⟨v, vs, rfl, ih ts vs _ _ (by simpa using h1) (fun j hj => by rw [List.length_set]; exact hb j (by simp [hj])) (h2.set (hb i (by simp)) r1) r2 fun σ' q1 q2 q3 q4 => k σ' q1 (by rw [q2, List.length_set]) (fun own ho => ?_) fun j hj => ?_⟩
                · rw [q3 own fun j hj => ho j (by simp [hj])]
                  exact wipe_set (ho i (by simp))
                · rw [q4 j fun z => hj (by simp [z]), List.getElem?_set_ne fun z => hj (by simp [z])]
        exact go is ts vs env σ hlen hl h rs k
      · cases e
    · cases e
end Fx
end

section
set_option Elab.async false
set_option linter.all false
set_option maxRecDepth 100000
/-! Fx18: comprehensions. -/
namespace Fx
open PySem PySem.Spec PyProof.Rows L2
variable {D : Dec} {F : Call}

section
variable {w : World} {K : PySem.W.Frag} {ρ : List Addr} {H : Hp}
theorem RFs.snoc {v : V} {r : T × Nat} {A2 : List Addr} : ∀ {B : Addr → Prop} {vs : List V} {rs : List (T × Nat)} {A : List Addr}, RFs w K ρ H (fun a => B a ∨ a ∈ A2) vs rs A → RF w K ρ (fun a => B a ∨ a ∈ A) H v r.1 r.2 A2 → RFs w K ρ H B (vs ++ [v]) (rs ++ [r]) (A ++ A2)
  | B, [], [], A, h, h2 => by
    cases h
    have e : ([] : List Addr) ++ A2 = A2 ++ [] := by simp
    rw [e]
    exact .cons (h2.weakB fun a z => z.imp id fun z => by simp at z) .nil
  | B, _, _, _, .cons (A := A) (A' := A') h3 h4, h2 => by
    rw [List.append_assoc]
    refine .cons (h3.weakB fun a z => ?_) ((h4.weak fun a z => ?_).snoc (h2.weakB fun a z => ?_))
    · rcases z with z | z
      · exact .inl (.inl z)
      · rcases List.mem_append.mp z with z | z
        · exact .inr z
        · exact .inl (.inr z)
    · rcases z with (z | z) | z
      · exact .inl (.inl z)
      · exact .inr z
      · exact .inl (.inr z)
    · rcases z with (z | z) | z
      · exact .inl z
      · exact .inr (List.mem_append.mpr (.inl z))
      · exact .inr (List.mem_append.mpr (.inr z))
end
theorem Gd.like {X X' : Cx} (G : Gd X D F) (l : Like X X') (hc : X'.calm = true) (hn : X'.N.Nodup) : Gd X' D F := by
  obtain ⟨l1, l2, l3, l4, l5, l6⟩ := l
  refine ⟨hc, hn, by rw [l6]; exact G.gd, by rw [l6]; exact G.hn, by rw [l6]; exact G.un, fun x hx => by rw [l4]; exact G.blt x hx, fun p hp => ?_, fun f x hf => ?_⟩
  · obtain ⟨v, u, a, b, c⟩ := G.con p hp
    exact ⟨v, u, by rw [l4]; exact a, b, fun ρ B H => by rw [l2, l3]; exact c ρ B H⟩
  · obtain ⟨fa, fd, ps, a, b, b2, b3, c⟩ := G.fn f x hf
    refine ⟨fa, fd, ps, by rw [l4]; exact a, by rw [l3]; exact b, b2, b3, fun X'' l' => c X'' ⟨?_, ?_, ?_, ?_, ?_, ?_⟩⟩
    · rw [l'.prog, l1]
    · rw [l'.w, l2]
    · rw [l'.K, l3]
    · rw [l'.mg, l4]
    · rw [l'.base, l5]
    · rw [l'.A, l6]
theorem Gd.blk {X : Cx} (G : Gd X D F) (s : Shared) (H : Hp) (scope : Scope) (cenv : PySem.Env) (fp : List Addr) : Gd (X.blk s H scope cenv fp) D F := G.like ⟨rfl, rfl, rfl, rfl, rfl, rfl⟩ G.calm G.nd

/-- what a block's expression is to do wherever it is run -/
def teC (X : Cx) (scope : Scope) (e : Expr) : TE := fun σ H Q => ∀ (s : Shared) (H0 : Hp) (C : Addr) (cl : List (Str × Addr)) (fp : List Addr), wE (X.blk s H0 scope (compEnvC scope cl C X.env) fp) e σ H Q
def ttC (X : Cx) (scope : Scope) (ifs : List Expr) : TT := match ifs with
  | [] => tYes
  | c :: _ => fun σ H Q => ∀ (s : Shared) (H0 : Hp) (C : Addr) (cl : List (Str × Addr)) (fp : List Addr), wT (X.blk s H0 scope (compEnvC scope cl C X.env) fp) c σ H Q
/-- a comprehension's turn -/
abbrev turnC (F : Call) (env : Env) (own : List Nat) (tg : Tg) (cond elt : E) : T → List T → Out (Option (T × Nat)) := fun t g => match bindTg tg t (wipeE env own) with
  | none => .bad
  | some env' => (evalE F env' cond g).bind fun c g => (match c.1.truth with
    | some true => (evalE F env' elt g).bind fun r g => .ok (some r) g
    | some false => .ok none g
    | none => .bad)
theorem compL_cons {t : T} {r : List T} {g : List T} {f : T → List T → Out (Option (T × Nat))} {rs : List (T × Nat)} {g' : List T} (h : compL (t :: r) g f = .ok rs g') :
    ∃ x g1 xs, f t g = .ok x g1 ∧ compL r g1 f = .ok xs g' ∧ rs = x.toList ++ xs := by
  unfold compL at h
  obtain ⟨x, g1, e1, h⟩ := Out.bind_eq h
  obtain ⟨xs, g2, e2, h⟩ := Out.bind_eq h
  cases h
  refine ⟨x, g1, xs, e1, e2, ?_⟩
  cases x <;> rfl
theorem turnC_inv {env : Env} {own : List Nat} {tg : Tg} {cond elt : E} {t : T} {g g' : List T} {x : Option (T × Nat)} (h : turnC F env own tg cond elt t g = .ok x g') :
    ∃ env' c g1, bindTg tg t (wipeE env own) = some env' ∧ evalE F env' cond g = .ok c g1 ∧ ((c.1.truth = some true ∧ ∃ r, evalE F env' elt g1 = .ok r g' ∧ x = some r) ∨ (c.1.truth = some false ∧ x = none ∧ g' = g1)) := by
  unfold turnC at h
  split at h
  · cases h
  · rename_i env' e
    obtain ⟨c, g1, e1, h⟩ := Out.bind_eq h
    refine ⟨env', c, g1, e, e1, ?_⟩
    split at h
    · rename_i ht
      obtain ⟨r, g2, e2, h⟩ := Out.bind_eq h
      cases h
      exact .inl ⟨ht, r, e2, rfl⟩
    · rename_i ht
      cases h
      exact .inr ⟨ht, rfl, rfl⟩
    · cases h
theorem wI.mono {X : Cx} {tg iter : Expr} {σ : L2.St} {H : Hp} {R R' : L2.It → Hp → Prop} (h : wI X tg iter σ H R) (k : ∀ J H', R J H' → R' J H') : wI X tg iter σ H R' := fun pins s I =>
  thn (h pins s I) fun _ _ h1 => thn h1 fun _ _ ⟨it, fp, tn, J, H', a, b, c, d, e, f⟩ => ⟨it, fp, tn, J, H', a, b, c, d, e, k J H' f⟩
/-- where a comprehension stands at its i-th turn -/
structure CSt (F : Call) (w : World) (K : PySem.W.Frag) (ρ : List Addr) (B : Addr → Prop) (H1 : Hp) (env : Env) (own : List Nat) (tg : Tg) (cond elt : E) (ts : List T) (rs : List (T × Nat)) (g' : List T) (p : Addr) (i : Nat) (H : Hp) : Prop where
  le : i ≤ ts.length
  ex : ∃ (r : List Addr) (g : List T) (acc : List V) (done rest : List (T × Nat)) (A : List Addr), compL (ts.drop i) g (turnC F env own tg cond elt) = .ok rest g' ∧ rs = done ++ rest ∧ done.length ≤ i ∧ Keep ρ H1 H ∧ (∀ a ∈ r, H1 a = none) ∧ p ∉ r ∧
    Cells w K (ρ ++ r) H g ∧ H p = some (.lst acc) ∧ RFs w K (ρ ++ r) H (fun a => B a ∨ a ∈ r ∨ a = p) acc done A ∧ ∀ a ∈ A, H1 a = none
theorem Keep.old {ρ : List Addr} {H H' : Hp} {g : List T} {w : World} {K : PySem.W.Frag} {r : List Addr} (k : Keep ρ H H') (c : Cells w K (ρ ++ r) H' g) {a : Addr} (e : H' a = none) : H a = none := by
  cases q : H a with
  | none => rfl
  | some o =>
    by_cases hc : a ∈ ρ
    · obtain ⟨vs, z⟩ := c.live (List.mem_append.mpr (.inl hc))
      rw [z] at e; cases e
    · rw [k a o q hc] at e; cases e
theorem comp_turn {X : Cx} {J : L2.It} {σ : L2.St} {ρ : List Addr} {B : Addr → Prop} {H1 : Hp} {g1 g' : List T} {env : Env} {own : List Nat} {tg : Tg} {cond elt : E} {ts : List T} {rs : List (T × Nat)} {p : Addr} {scope : Scope} {elt' : Expr} {ifs' : List Expr}
    (hcond : STt D F cond) (helt : SE D F elt) (G : Gd X D F) (S1 : Sit X.w X.K ρ B H1 g1 env σ) (hJ : ItOk X.w X.K J ts ρ B H1) (hts : ts.length ≤ sizeL) (hlen : σ.length = X.N.length) (hlt : ∀ i ∈ tgIs tg, i < X.N.length) (htgI : ∀ i ∈ tgIs tg, i ∈ own)
    (ce : chkE D X.N (relS scope X.env.scope) elt elt' = true) (cc : (ifs' = [] ∧ cond = .lit (.bl true)) ∨ ∃ c', ifs' = [c'] ∧ chkE D X.N (relS scope X.env.scope) cond c' = true) (hp : H1 p = none) {i : Nat} {H : Hp}
    (hi : i < ts.length) (q : CSt F X.w X.K ρ B H1 env own tg cond elt ts rs g' p i H) : J.go i H ∧ ∀ x H', J.yld i H x H' → gT X.K tg x (L2.wipe σ own) H' fun σ2 H2 => L2.wipe σ2 own = L2.wipe σ own ∧ ttC X scope ifs' σ2 H2 fun b H3 =>
      if b = true then teC X scope elt' σ2 H3 fun y H4 => ∃ acc, H4 p = some (.lst acc) ∧ acc.length < sizeLine ∧ CSt F X.w X.K ρ B H1 env own tg cond elt ts rs g' p (i + 1) (upd H4 p (.lst (acc ++ [y]))) else CSt F X.w X.K ρ B H1 env own tg cond elt ts rs g' p (i + 1) H3 := by
  obtain ⟨r, g, acc, done, rest, A, e1, e2, e3, kp, hr, hpr, cl, hpH, hRF, hA⟩ := q.ex
  have ht : ts[i]? = some ts[i] := List.getElem?_eq_getElem hi
  have mv1 : Mv ρ (ρ ++ r) B (fun a => B a ∨ a ∈ r ∨ a = p ∨ a ∈ A) H1 H := .of kp S1.cells.apart S1.bad (fun a z => by
    rcases z with z | z | rfl | z
    · exact .inl z
    · exact .inr (hr a z)
    · exact .inr hp
    · exact .inr (hA a z)) ⟨r, rfl⟩
  obtain ⟨_, hgo⟩ := hJ _ _ _ mv1 i
  obtain ⟨go, yl⟩ := hgo _ ht
  refine ⟨go, fun x H' hy => ?_⟩
  obtain ⟨hH', rx⟩ := yl x H' hy
  -- the heap at the item
  have hpB : B p → False := fun z => S1.badT p z hp
  have hpρ : p ∉ ρ := fun z => hpB (S1.bad p z)
  have mv2 : ∀ B' : Addr → Prop, Mv (ρ ++ r) (ρ ++ r) B' B' H H' := fun B' => by
    rcases hH' with rfl | ⟨p', xs, np, rfl⟩
    · exact ⟨fun _ _ e _ => e, fun _ _ e => e, fun _ _ _ e => e, fun _ z => .inl z, ⟨[], by simp⟩⟩
    · exact Mv.fresh np
  have kp2 : ∀ a o, H a = some o → H' a = some o := fun a o e => by
    rcases hH' with rfl | ⟨p', xs, np, rfl⟩
    · exact e
    · rw [upd_ne (ne_of_none e np)]; exact e
  have cl2 : Cells X.w X.K (ρ ++ r) H' g := cl.mv (fun a _ o e => kp2 a o e) (fun a xs e => kp2 a _ e) fun a o u e => kp2 a _ e
  have env2 : EnvOk X.w X.K (ρ ++ r) (fun a => B a ∨ a ∈ r ∨ a = p ∨ a ∈ A) H' env σ := EnvOk.mv (mv2 _) (EnvOk.mv mv1 S1.env)
  -- the turn in the evaluator
  have hdrop : ts.drop i = ts[i] :: ts.drop (i + 1) := List.drop_eq_getElem_cons hi
  rw [hdrop] at e1
  obtain ⟨xo, g2, rest2, t1, t2, t3⟩ := compL_cons e1
  obtain ⟨env', c, g3, b1, b2, b3⟩ := turnC_inv t1
  refine tg_run (fun j hj => by rw [wipe_length, hlen]; exact hlt j hj) (env2.wipe own) rx b1 fun σ2 env3 hl2 hw _ => ?_
  refine ⟨by rw [hw own htgI]; exact wipe_wipe own fun _ h => h, ?_⟩
  have S2 : Sit X.w X.K (ρ ++ r) (fun a => B a ∨ a ∈ r ∨ a = p ∨ a ∈ A) H' g env' σ2 := by
    refine ⟨cl2, fun a ha => ?_, fun a ha => ?_, env3⟩
    · rcases List.mem_append.mp ha with ha | ha
      · exact .inl (S1.bad a ha)
      · exact .inr (.inl ha)
    · have key : ∀ o, H a = some o → H' a ≠ none := fun o e => by rw [kp2 a o e]; simp
      rcases ha with ha | ha | rfl | ha
      · by_cases hc : a ∈ ρ
        · obtain ⟨vs, z⟩ := cl.live (List.mem_append.mpr (.inl hc))
          exact key _ z
        · cases e : H1 a with
          | none => exact absurd e (S1.badT a ha)
          | some o => exact key _ (kp a o e hc)
      · obtain ⟨vs, z⟩ := cl.live (List.mem_append.mpr (.inr ha))
        exact key _ z
      · exact key _ hpH
      · cases e : H a with
        | none => exact absurd e (hRF.there a ha)
        | some o => exact key _ e
  -- behind the test
  have behind : ∀ (bb : Bool), c.1.truth = some bb → ∀ {Q : Bool → Hp → Prop}, (∀ (r3 : List Addr) (H3 : Hp), Keep (ρ ++ r) H' H3 → (∀ a ∈ r3, H' a = none) → Cells X.w X.K ((ρ ++ r) ++ r3) H3 g3 → Q bb H3) → ttC X scope ifs' σ2 H' Q := by
    intro bb hbb Q k
    rcases cc with ⟨rfl, rfl⟩ | ⟨c', rfl, hc'⟩
    · unfold evalE at b2
      cases b2
      cases hbb
      exact k [] H' (Keep.refl _ _) (by simp) (by rw [List.append_nil]; exact cl2)
    · intro s H0 C cl0 fp
      refine (hcond (X.blk s H0 scope (compEnvC scope cl0 C X.env) fp) (G.blk s H0 scope _ fp) c' σ2 _ _ H' g g3 env' c.1 c.2 bb S2 hc' b2 hbb).mono fun b' H3 q3 => ?_
      obtain ⟨rfl, r3, k3, hr3, c3⟩ := q3
      exact k r3 H3 k3 hr3 c3
  have hp2 : H' p = some (.lst acc) := kp2 _ _ hpH
  have hpρr : p ∉ ρ ++ r := fun z => by
    rcases List.mem_append.mp z with z | z
    · exact hpρ z
    · exact hpr z
  have hle := q.le
  have kpH' : Keep ρ H1 H' := fun a o e n => kp2 a o (kp a o e n)
  rcases b3 with ⟨ht1, y, ey, rfl⟩ | ⟨ht1, rfl, rfl⟩
  · refine behind true ht1 fun r3 H3 k3 hr3 c3 => ?_
    rw [if_pos rfl]
    intro s H0 C cl0 fp
    have S3 := Base.sit S2 k3 hr3 c3
    refine wE.fits ((helt (X.blk s H0 scope (compEnvC scope cl0 C X.env) fp) (G.blk s H0 scope _ fp) elt' σ2 _ _ H3 g3 g2 env' y.1 y.2 S3 ce ey).mono fun v H4 q4 _ => ?_)
    obtain ⟨r4, A4, k4, hr4, c4, h4, hA4⟩ := q4
    have hp3 : H3 p = some (.lst acc) := k3 _ _ hp2 hpρr
    have hpr3 : p ∉ r3 := fun z => by rw [hr3 p z] at hp2; cases hp2
    have hp4 : H4 p = some (.lst acc) := k4 _ _ hp3 fun z => by
      rcases List.mem_append.mp z with z | z
      · exact hpρr z
      · exact hpr3 z
    have hpr4 : p ∉ r4 := fun z => by rw [hr4 p z] at hp3; cases hp3
    have hpA4 : p ∉ A4 := fun z => by rw [hA4 p z] at hp3; cases hp3
    have old3 : ∀ a, H3 a = none → H1 a = none := fun a e => Keep.old (kpH') cl2 (Keep.old k3 c3 e)
    have old' : ∀ a, H' a = none → H1 a = none := fun a e => Keep.old kpH' cl2 e
    -- what was made so far, at the end
    have acc1 : RFs X.w X.K ((ρ ++ r) ++ (r3 ++ r4)) H4 (fun a => (B a ∨ a ∈ r ∨ a = p) ∨ (a ∈ r3 ++ r4 ∨ a ∈ A4)) acc done A := by
      have m1 : Mv (ρ ++ r) ((ρ ++ r) ++ r3) (fun a => B a ∨ a ∈ r ∨ a = p) (fun a => (B a ∨ a ∈ r ∨ a = p) ∨ a ∈ r3) H' H3 := .of k3 cl2.apart (fun a ha => by
        rcases List.mem_append.mp ha with ha | ha
        · exact .inl (S1.bad a ha)
        · exact .inr (.inl ha)) (fun a z => by
        rcases z with z | z
        · exact .inl z
        · exact .inr (hr3 a z)) ⟨r3, rfl⟩
      have m2 : Mv ((ρ ++ r) ++ r3) (((ρ ++ r) ++ r3) ++ r4) (fun a => (B a ∨ a ∈ r ∨ a = p) ∨ a ∈ r3) (fun a => (B a ∨ a ∈ r ∨ a = p) ∨ (a ∈ r3 ++ r4 ∨ a ∈ A4)) H3 H4 := .of k4 c3.apart (fun a ha => by
        rcases List.mem_append.mp ha with ha | ha
        · rcases List.mem_append.mp ha with ha | ha
          · exact .inl (.inl (S1.bad a ha))
          · exact .inl (.inr (.inl ha))
        · exact .inr ha) (fun a z => by
        rcases z with z | z | z
        · exact .inl (.inl z)
        · rcases List.mem_append.mp z with z | z
          · exact .inl (.inr z)
          · exact .inr (hr4 a z)
        · exact .inr (hA4 a z)) ⟨r4, rfl⟩
      have := ((hRF.mv (mv2 _)).mv m1).mv m2
      rwa [List.append_assoc (ρ ++ r)] at this
    have yv : RF X.w X.K ((ρ ++ r) ++ (r3 ++ r4)) (fun a => ((B a ∨ a ∈ r ∨ a = p) ∨ a ∈ r3 ++ r4) ∨ a ∈ A) H4 v y.1 y.2 A4 := by
      rw [← List.append_assoc (ρ ++ r)]
      refine h4.weakB fun a z => ?_
      rcases z with (z | z) | z
      · rcases z with z | z | z
        · exact .inl (.inl (.inl z))
        · exact .inl (.inl (.inr (.inl z)))
        · exact .inl (.inl (.inr (.inr (.inl z))))
      · rcases List.mem_append.mp z with z | z
        · exact .inl (.inr (.inl z))
        · exact .inr z
      · exact .inl (.inl (.inr (.inr (.inr z))))
    have acc2 : RFs X.w X.K ((ρ ++ r) ++ (r3 ++ r4)) H4 (fun a => (B a ∨ a ∈ r ∨ a = p) ∨ a ∈ r3 ++ r4) (acc ++ [v]) (done ++ [y]) (A ++ A4) :=
      RFs.snoc (acc1.weak fun a z => by
        rcases z with (z | z) | z
        · exact .inl z
        · exact .inr (.inl z)
        · exact .inr (.inr z)) yv
    have hal : acc.length < sizeLine := by
      have := hRF.length
      rw [← szL]
      omega
    refine ⟨acc, hp4, hal, by omega, r ++ (r3 ++ r4), g2, acc ++ [v], done ++ [y], rest2, A ++ A4, t2, by rw [e2, t3]; simp, by simp; omega, ?_, ?_, ?_, ?_, upd_same, ?_, ?_⟩
    · intro a o e n
      rw [upd_ne fun z => by rw [z] at e; rw [e] at hp; cases hp]
      refine k4 a o (k3 a o (kpH' a o e n) fun z => ?_) fun z => ?_
      · rcases List.mem_append.mp z with z | z
        · exact n z
        · rw [hr a z] at e; cases e
      · rcases List.mem_append.mp z with z | z
        · rcases List.mem_append.mp z with z | z
          · exact n z
          · rw [hr a z] at e; cases e
        · rw [old' a (hr3 a z)] at e; cases e
    · intro a ha
      rcases List.mem_append.mp ha with ha | ha
      · exact hr a ha
      · rcases List.mem_append.mp ha with ha | ha
        · exact old' a (hr3 a ha)
        · exact old3 a (hr4 a ha)
    · intro z
      rcases List.mem_append.mp z with z | z
      · exact hpr z
      · rcases List.mem_append.mp z with z | z
        · exact hpr3 z
        · exact hpr4 z
    · rw [← List.append_assoc, ← List.append_assoc]
      refine c4.mv (fun a ha o e => ?_) (fun a xs e => ?_) fun a o u e => ?_
      · rw [upd_ne fun z => ?_]
        · exact e
        · subst z
          rcases List.mem_append.mp ha with ha | ha
          · rcases List.mem_append.mp ha with ha | ha
            · exact hpρr ha
            · exact hpr3 ha
          · exact hpr4 ha
      · rw [upd_ne (ne_of e hp4 fun z => nomatch z)]; exact e
      · rw [upd_ne (ne_of e hp4 fun z => nomatch z)]; exact e
    · rw [← List.append_assoc]
      have m3 : Mv ((ρ ++ r) ++ (r3 ++ r4)) ((ρ ++ r) ++ (r3 ++ r4)) (fun a => (B a ∨ a ∈ r ∨ a = p) ∨ a ∈ r3 ++ r4) (fun a => (B a ∨ a ∈ r ∨ a = p) ∨ a ∈ r3 ++ r4) H4 (upd H4 p (.lst (acc ++ [v]))) := Mv.updB (.inl (.inr (.inr rfl))) hp4 (fun _ z => nomatch z) fun _ _ z => nomatch z
      refine (acc2.mv m3).weak fun a z => ?_
      rcases z with z | z | z
      · exact .inl (.inl z)
      · rcases List.mem_append.mp z with z | z
        · exact .inl (.inr (.inl z))
        · exact .inr z
      · exact .inl (.inr (.inr z))
    · intro a ha
      rcases List.mem_append.mp ha with ha | ha
      · exact hA a ha
      · exact old3 a (hA4 a ha)
  · refine behind false ht1 fun r3 H3 k3 hr3 c3 => ?_
    rw [if_neg Bool.false_ne_true]
    have old' : ∀ a, H' a = none → H1 a = none := fun a e => Keep.old kpH' cl2 e
    refine ⟨by omega, r ++ r3, g2, acc, done, rest2, A, t2, by rw [e2, t3]; rfl, by omega, ?_, ?_, ?_, ?_, k3 _ _ hp2 hpρr, ?_, hA⟩
    · intro a o e n
      refine k3 a o (kpH' a o e n) fun z => ?_
      rcases List.mem_append.mp z with z | z
      · exact n z
      · rw [hr a z] at e; cases e
    · intro a ha
      rcases List.mem_append.mp ha with ha | ha
      · exact hr a ha
      · exact old' a (hr3 a ha)
    · intro z
      rcases List.mem_append.mp z with z | z
      · exact hpr z
      · rw [hr3 p z] at hp2; cases hp2
    · rw [← List.append_assoc]; exact c3
    · rw [← List.append_assoc]
      refine (hRF.mv (mv2 _)).mv (.of k3 cl2.apart (fun a ha => ?_) (fun a z => ?_) ⟨r3, rfl⟩)
      · rcases List.mem_append.mp ha with ha | ha
        · exact .inl (S1.bad a ha)
        · exact .inr (.inl ha)
      · rcases z with z | z | z
        · exact .inl (.inl z)
        · rcases List.mem_append.mp z with z | z
          · exact .inl (.inr (.inl z))
          · exact .inr (hr3 a z)
        · exact .inl (.inr (.inr z))
theorem okE_it {N : List Str} {sc : Scope} {it : It} {e : Expr} (h : chkIt D N sc it e = true) : okE e = true := by
  cases it with
  | seq a =>
    unfold chkIt at h
    exact okE_chk h
  | _ =>
    unfold chkIt at h
    split at h
    · rfl
    · cases h
/-- the block, and what it reads to -/
theorem comp_read {elt : E} {own : List Nat} {tg : Tg} {it : It} {cond : E} (hit : SI D F it) (hcond : STt D F cond) (helt : SE D F elt) {X : Cx} (G : Gd X D F) {e : Expr} {σ : L2.St} {ρ : List Addr} {B : Addr → Prop} {H : Hp} {g g' : List T} {env : Env} {t : T} {fl : Nat}
    (S : Sit X.w X.K ρ B H g env σ) (hch : chkE D X.N X.env.scope (.comp elt own tg it cond) e = true) (he : evalE F env (.comp elt own tg it cond) g = .ok (t, fl) g') :
    ∃ elt' tg' it' ifs' scope pos, e = .ListComp elt' [⟨tg', it', ifs', 0⟩] scope pos ∧ BlkOk X.N X.env.scope scope (ownOf X.N own) ∧
      (∀ (s : Shared) (H : Hp) (C : Addr) (cl : List (Str × Addr)) (fp : List Addr), PG (X.blk s H scope (compEnvC scope cl C X.env) fp) tg' (gT X.K tg)) ∧
      (∀ (s : Shared) (H : Hp) (C : Addr) (cl : List (Str × Addr)) (fp : List Addr), PTs (X.blk s H scope (compEnvC scope cl C X.env) fp) ifs' (ttC X scope ifs')) ∧
      (∀ (s : Shared) (H : Hp) (C : Addr) (cl : List (Str × Addr)) (fp : List Addr), PE (X.blk s H scope (compEnvC scope cl C X.env) fp) elt' (teC X scope elt')) ∧
      (∀ x, foldedSetIterable it' X.env x = pure x) ∧ (σ.length = X.N.length → tLc (wI X tg' it') (gT X.K tg) (ttC X scope ifs') (teC X scope elt') ((ownOf X.N own).map (·.2)) σ H (Post X.w X.K ρ B H t fl g')) := by
  unfold evalE at he
  obtain ⟨ts, g1, ei, he⟩ := Out.bind_eq he
  obtain ⟨rs, g2, ec, he⟩ := Out.bind_eq he
  cases he
  replace ec : compL ts g1 (turnC F env own tg cond elt) = .ok rs g' := ec
  unfold chkE at hch
  split at hch
  · rename_i elt' tg' it' ifs' scope pos
    obtain ⟨c12345, c6⟩ := band hch
    obtain ⟨c1234, c5⟩ := band c12345
    obtain ⟨c123, c4⟩ := band c1234
    obtain ⟨c12i, c3⟩ := band c123
    obtain ⟨c12, hitTg⟩ := band c12i
    obtain ⟨c1, c2⟩ := band c12
    replace c2 : chkTg X.N (relS scope X.env.scope) (fun x => scope.names.lookup x == some .cell) tg tg' = true := c2
    have blk := blkOk_by c4
    have hown : (ownOf X.N own).map (·.2) = own := by
      unfold ownOf
      rw [List.map_map]
      exact List.map_id' _ |>.trans rfl
    have htgI : ∀ i ∈ tgIs tg, i ∈ own := by
      cases tg with
      | one i =>
        intro j hj
        rw [List.mem_singleton.mp hj]
        exact of_decide_eq_true c3
      | many is =>
        intro j hj
        exact of_decide_eq_true (List.all_eq_true.mp c3 j hj)
    have hlt : ∀ i ∈ tgIs tg, i < X.N.length := chkTg_lt c2
    have htt : (∀ (s : Shared) (H : Hp) (C : Addr) (cl : List (Str × Addr)) (fp : List Addr), PTs (X.blk s H scope (compEnvC scope cl C X.env) fp) ifs' (ttC X scope ifs')) := by
      intro s H C cl fp
      cases ifs' with
      | nil => exact pts_nil
      | cons c r =>
        cases r with
        | nil => exact pts_one ⟨fun pins s' σ H' Q I h => h s H C cl fp pins s' I⟩
        | cons _ _ => cases c6
    refine ⟨elt', tg', it', ifs', scope, pos, rfl, blk, (fun s H C cl fp => tg_pg (X := X.blk s H scope (compEnvC scope cl C X.env) fp) G.nd G.calm (fun x hx => hx) c2), htt, (fun s H C cl fp => ⟨fun pins s' σ H' Q I h => h s H C cl fp pins s' I⟩), (fun x => fold_ok (okE_it c1) x), fun hlen => ?_⟩
    rw [hown]
    have hcc : (ifs' = [] ∧ cond = .lit (.bl true)) ∨ ∃ c', ifs' = [c'] ∧ chkE D X.N (relS scope X.env.scope) cond c' = true := by
      cases ifs' with
      | nil =>
        refine .inl ⟨rfl, ?_⟩
        simp only at c6
        split at c6
        · rfl
        · cases c6
      | cons c r =>
        cases r with
        | nil => exact .inr ⟨c, rfl, c6⟩
        | cons _ _ => cases c6
    refine wI.mono (hit X G tg' it' σ ρ B H g g1 env ts S c1 hitTg ei) fun J H1 q1 p hp => ?_
    obtain ⟨r1, kp1, hr1, cl1, hts, hJ⟩ := q1
    have S1 : Sit X.w X.K (ρ ++ r1) (fun a => B a ∨ a ∈ r1) H1 g1 env σ := by
      have := Base.sit S kp1 hr1 cl1
      refine ⟨this.cells, fun a ha => ?_, fun a ha => this.badT a (ha.imp id .inl), fun i t e => ?_⟩
      · rcases this.bad a ha with z | z | z
        · exact .inl z
        · exact .inr z
        · simp at z
      · obtain ⟨v, h1, h2⟩ := this.env i t e
        exact ⟨v, h1, h2.weak fun a z => z.imp id .inl⟩
    have np : ¬ (B p ∨ p ∈ r1) := fun z => S1.badT p z hp
    have npρ : p ∉ ρ ++ r1 := fun z => np (S1.bad p z)
    refine ⟨fun i m H' => m = ts.length - i ∧ CSt F X.w X.K (ρ ++ r1) (fun a => B a ∨ a ∈ r1) H1 env own tg cond elt ts rs g' p i H', ⟨ts.length, rfl, Nat.zero_le _, [], g1, [], [], rs, [], ec, rfl, Nat.le_refl _, Keep.upd hp, by simp, by simp, ?_, upd_same, .nil, by simp⟩, fun i m H' hW => ?_⟩
    · rw [List.append_nil]; exact cl1.fresh hp
    · obtain ⟨rfl, hq⟩ := hW
      by_cases hi : i < ts.length
      · obtain ⟨go, turn⟩ := comp_turn hcond helt G S1 hJ hts hlen hlt htgI c5 hcc hp hi hq
        refine .inr ⟨go, fun H2 => CSt F X.w X.K (ρ ++ r1) (fun a => B a ∨ a ∈ r1) H1 env own tg cond elt ts rs g' p (i + 1) H2, fun H2 h2 => ⟨_, ?_, rfl, h2⟩, turn⟩
        omega
      · refine .inl ⟨?_, ?_⟩
        · obtain ⟨r, g, acc, done, rest, A, e1, e2, e3, kp, hr, hpr, cl, hpH, hRF, hA⟩ := hq.ex
          have mv1 : Mv (ρ ++ r1) ((ρ ++ r1) ++ r) (fun a => B a ∨ a ∈ r1) (fun a => (B a ∨ a ∈ r1) ∨ a ∈ r) H1 H' := .of kp S1.cells.apart S1.bad (fun a z => by
            rcases z with z | z
            · exact .inl z
            · exact .inr (hr a z)) ⟨r, rfl⟩
          exact (hJ _ _ _ mv1 i).1 (by omega)
        · obtain ⟨r, g, acc, done, rest, A, e1, e2, e3, kp, hr, hpr, cl, hpH, hRF, hA⟩ := hq.ex
          rw [List.drop_eq_nil_of_le (by omega)] at e1
          cases e1
          rw [List.append_nil] at e2
          subst e2
          refine Post.on (A := []) S kp1 hr1 cl1 (by simp) (by simp) ?_
          have npB : ¬ ((B p ∨ p ∈ r1 ∨ p ∈ ([] : List Addr)) ∨ p ∈ r) := fun z => by
            rcases z with (z | z | z) | z
            · exact np (.inl z)
            · exact np (.inr z)
            · simp at z
            · exact hpr z
          by_cases f : allFl rs = true
          · rw [if_pos f]
            refine ⟨r, p :: A, kp, hr, cl, .inr (.inr ⟨rfl, .lst2 hpH ((hRF.own f).weak fun a z => ?_), List.nodup_cons.mpr ⟨fun z => hRF.nb p z (.inr (.inr rfl)), hRF.nodup⟩, fun a ha => ?_⟩), fun a ha => ?_⟩
            · rcases z with (z | z | z) | z
              · exact .inl (.inl z)
              · exact .inl (.inr z)
              · simp at z
              · exact .inr (.inl z)
            · rcases List.mem_cons.mp ha with rfl | ha
              · exact npB
              · refine fun z => hRF.nb a ha ?_
                rcases z with (z | z | z) | z
                · exact .inl (.inl z)
                · exact .inl (.inr z)
                · simp at z
                · exact .inr (.inl z)
            · rcases List.mem_cons.mp ha with rfl | ha
              · exact hp
              · exact hA a ha
          · rw [if_neg f]
            refine ⟨r, [p], kp, hr, cl, .inr (.inl ⟨rfl, p, rfl, rfl, npB, .lst hpH (hRF.sh.weak fun a z => ?_)⟩), fun a ha => ?_⟩
            · rcases z with ((z | z | z) | z) | z
              · exact .inl (.inl z)
              · exact .inl (.inr z)
              · simp at z
              · exact .inr (.inl z)
              · exact .inr (.inr z)
            · rw [List.mem_singleton.mp ha]; exact hp
  · cases hch
theorem se_comp {elt : E} {own : List Nat} {tg : Tg} {it : It} {cond : E} (hit : SI D F it) (hcond : STt D F cond) (helt : SE D F elt) : SE D F (.comp elt own tg it cond) := by
  intro X G e σ ρ B H g g' env t fl S hch he
  obtain ⟨elt', tg', it', ifs', scope, pos, rfl, blk, h1, h2, h3, h4, h5⟩ := comp_read hit hcond helt G S hch he
  exact wE.len fun hlen => wE.of (pe_lc G.calm G.nd (wI.pi X tg' it') blk h1 h2 h3 h4) (h5 hlen)
end Fx
end

section
set_option Elab.async false
set_option linter.all false
set_option maxRecDepth 100000
/-! Fx19: calls of the module's functions, methods, lists of ranges. -/
namespace Fx
open PySem PySem.Spec PyProof.Rows L2
variable {D : Dec} {F : Call}

theorem Post.weakB {w : World} {K : PySem.W.Frag} {ρ : List Addr} {B B' : Addr → Prop} {H : Hp} {t : T} {fl : Nat} {g' : List T} {v : V} {H' : Hp} (h : ∀ a, B' a → B a) (q : Post w K ρ B H t fl g' v H') : Post w K ρ B' H t fl g' v H' := by
  obtain ⟨r, A, a1, a2, a3, a4, a5⟩ := q
  exact ⟨r, A, a1, a2, a3, a4.weakB fun a z => z.imp (h a) id, a5⟩
theorem Rs.getD_ {w : World} {K : PySem.W.Frag} {ρ : List Addr} {B : Addr → Prop} {H : Hp} {vs : List V} {ts : List T} (h : Rs w K ρ B H false vs ts []) (i : Nat) : R w K ρ B H false (vs.getD i .non) (ts.getD i .non) [] := by
  by_cases hi : i < ts.length
  · obtain ⟨v, A', e1, e2, _⟩ := h.at_ (j := i) (List.getElem?_eq_getElem hi)
    have e3 : ts.getD i .non = ts[i] := by simp [List.getD, List.getElem?_eq_getElem hi]
    have e4 : vs.getD i .non = v := by simp [List.getD, e1]
    rw [e3, e4]
    have := e2.nil
    subst this
    exact e2
  · have hl := h.length
    have e3 : ts.getD i .non = .non := by simp [List.getD, List.getElem?_eq_none (Nat.le_of_not_lt hi)]
    have e4 : vs.getD i .non = .non := by simp [List.getD, List.getElem?_eq_none (show vs.length ≤ i by omega)]
    rw [e3, e4]
    exact .non
theorem Rs.getM {w : World} {K : PySem.W.Frag} {ρ : List Addr} {B : Addr → Prop} {H : Hp} {vs : List V} {ts : List T} (h : Rs w K ρ B H false vs ts []) : ∀ pm : List Nat, Rs w K ρ B H false (pm.map fun i => vs.getD i .non) (pm.map fun i => ts.getD i .non) []
  | [] => .nil
  | i :: pm => .cons (A := []) (A' := []) (h.getD_ i) (h.getM pm)
theorem Vals.getD_ {vs : List V} {us : List Value} (h : Vals vs us) (i : Nat) (hi : i < us.length) : RelV (vs.getD i .non) (us.getD i .none) := by
  induction h generalizing i with
  | nil => simp at hi
  | cons h1 h2 ih =>
    cases i with
    | zero => exact h1
    | succ i => exact ih i (by simpa using hi)
theorem Vals.getM {vs : List V} {us : List Value} (h : Vals vs us) : ∀ pm : List Nat, (∀ i ∈ pm, i < us.length) → Vals (pm.map fun i => vs.getD i .non) (pm.map fun i => us.getD i .none)
  | [], _ => .nil
  | i :: pm, hp => .cons (Vals.getD_ h i (hp i (by simp))) (Vals.getM h pm fun j hj => hp j (by simp [hj]))
theorem fn_tail {X : Cx} {σ : L2.St} {ρ : List Addr} {B : Addr → Prop} {H H1 : Hp} {g g1 g' : List T} {env : Env} {rs : List (T × Nat)} {vs : List V} {t : T} {fl : Nat} (S : Sit X.w X.K ρ B H g env σ) (q : PostL X.w X.K ρ B H rs g1 vs H1) :
    ∃ ρ' B', Rs X.w X.K ρ' B' H1 false vs (rs.map (·.1)) [] ∧ Cells X.w X.K ρ' H1 g1 ∧ (∀ a ∈ ρ', B' a) ∧ (∀ a, B' a → H1 a ≠ none) ∧ ∀ v H', Post X.w X.K ρ' B' H1 t fl g' v H' → Post X.w X.K ρ B H t fl g' v H' := by
  obtain ⟨r, A, kp, hr, c, h, hA⟩ := q
  have S1 := S.on (A := []) kp hr c (by simp) (by simp)
  refine ⟨ρ ++ r, fun a => B a ∨ a ∈ r, h.sh, c, fun a ha => ?_, fun a ha => S1.badT a (ha.imp id .inl), fun v H' p => ?_⟩
  · rcases List.mem_append.mp ha with z | z
    · exact .inl (S.bad a z)
    · exact .inr z
  · refine Post.on (A := []) S kp hr c (by simp) (by simp) (p.weakB fun a z => ?_)
    rcases z with z | z | z
    · exact .inl z
    · exact .inr z
    · simp at z
theorem se_call {f : Nat} {es : Es} (hes : SEs D F es) : SE D F (.call f es) := by
  intro X G e σ ρ B H g g' env t fl S hc he
  unfold chkE at hc
  split at hc
  · rename_i x p es' pos
    obtain ⟨h123, h4⟩ := band hc
    obtain ⟨h12, h3⟩ := band h123
    obtain ⟨h1, h2⟩ := band h12
    have hn := of_decide_eq_true h1
    obtain ⟨fa, fd, ps, m1, m2, m3, _, run⟩ := G.fn f x hn
    unfold evalE at he
    obtain ⟨rs, g1, ea, he⟩ := Out.bind_eq he
    have oks := chkEs_ok h4
    have args := hes X G es' σ ρ B H g g1 env rs S h4 ea
    intro pins s I
    refine wpAny_Call_Name_kw (ld_glob I (gl_of h2) m1 ?_ (name_of h3).1)
    have fin : ∀ us s1 vs H1, L2.Inv X pins σ H1 s1 → Vals vs us → PostL X.w X.K ρ B H rs g1 vs H1 → wpAny (model X.prog X.w) X.A (call (.ref fa) ([] ++ us) []) (EP X pins σ (Post X.w X.K ρ B H t fl g')) X.xe s1 := by
      intro us s1 vs H1 I1 r1 q1
      obtain ⟨ρ', B', a1, a2, a3, a4, a5⟩ := fn_tail (t := t) (fl := fl) (g' := g') S q1
      exact run X (Like.refl X) pins s1 σ H1 us [] us vs _ _ g1 g' t fl ρ' B' I1 (fun e => m3 s1 us e) r1 a1 a2 a3 a4 he a5
    cases es' with
    | nil =>
      cases es with
      | nil =>
        unfold evalEs at ea
        cases ea
        exact PySem.W.callWith_K0 I.kIn m2 (fin [] s [] H I .nil (postL_nil S))
      | cons _ _ => cases h4
    | cons e' r' =>
      refine PySem.W.callWith_K (h₀ := X.base) I.ok.mod.kin m2 (thn (args pos pins s I) fun us s1 ⟨vs, H1, I1, r, q⟩ => ⟨I1.kIn, fin us s1 vs H1 I1 r q⟩) (starEach_ok (oks e' (by simp))) (noStar fun x hx => oks x (by simp [hx]))
  · cases hc
/-! ### keywords -/
def wK (X : Cx) (kws : List Keyword) : TA := fun σ H Q => ∀ (pos : Pos) (pins : List (Addr × Obj)) (s : Shared), L2.Inv X pins σ H s → wpAny (model X.prog X.w) X.A (evalAll ((backToKw pos (keywordEach kws X.env)).map (·.2))) (AP X pins σ Q) X.xe s
theorem wK.pk (X : Cx) (kws : List Keyword) : PK X kws (wK X kws) := ⟨fun pos pins s _ _ _ I h => h pos pins s I⟩
theorem wK.of {X : Cx} {kws : List Keyword} {σ : L2.St} {H : Hp} {t : TA} {Q : List V → Hp → Prop} (h : PK X kws t) (q : t σ H Q) : wK X kws σ H Q := fun pos pins s I => h.run pos pins s σ H Q I q
theorem wK.mono {X : Cx} {kws : List Keyword} {σ : L2.St} {H : Hp} {Q Q' : List V → Hp → Prop} (h : wK X kws σ H Q) (k : ∀ v H', Q v H' → Q' v H') : wK X kws σ H Q' := fun pos pins s I =>
  thn (h pos pins s I) fun _ _ ⟨vs, H', I', r, q⟩ => ⟨vs, H', I', r, k vs H' q⟩
def SEK (D : Dec) (F : Call) (c : Es) : Prop := ∀ (X : Cx), Gd X D F → ∀ (kws : List Keyword) (σ : L2.St) (ρ : List Addr) (B : Addr → Prop) (H : Hp) (g g' : List T) (env : Env) (rs : List (T × Nat)),
  Sit X.w X.K ρ B H g env σ → chkEs D X.N X.env.scope c (kws.map fun k => k.value) = true → evalEs F env c g = .ok rs g' → wK X kws σ H (PostL X.w X.K ρ B H rs g')
theorem sek_nil : SEK D F .nil := by
  intro X G kws σ ρ B H g g' env rs S hc he
  cases kws with
  | nil =>
    unfold evalEs at he
    cases he
    exact wK.of pk_nil (postL_nil S)
  | cons k r => cases hc
theorem sek_cons {e : E} {es : Es} (h1 : SE D F e) (h2 : SEK D F es) : SEK D F (.cons e es) := by
  intro X G kws σ ρ B H g g' env rs S hc he
  cases kws with
  | nil => cases hc
  | cons k r' =>
    unfold chkEs at hc
    simp only [List.map_cons] at hc
    obtain ⟨c1, c2⟩ := band hc
    unfold evalEs at he
    obtain ⟨x, g1, e1, he⟩ := Out.bind_eq he
    obtain ⟨xs, g2, e2, he⟩ := Out.bind_eq he
    cases he
    obtain ⟨nm, e', kpos⟩ := k
    refine wK.of (pk_cons (wE.pe X e') (wK.pk X r')) ?_
    refine (h1 X G e' σ ρ B H g g1 env x.1 x.2 S c1 e1).mono fun v H1 q => ?_
    obtain ⟨r, A, kp, hr, c, h, hA⟩ := q
    have S1 := S.on kp hr c hA h.there
    exact (h2 X G r' σ _ _ H1 g1 g' env xs S1 c2 e2).mono fun vs H2 q2 => postL_cons S kp hr c h hA q2
theorem kw_each {pos : Pos} {env : PySem.Env} : ∀ {kws : List Keyword}, (backToKw pos (keywordEach kws env)).map (·.1) = kws.map fun k => k.arg
  | [] => rfl
  | ⟨nm, e, kp⟩ :: r => by
    have ih := kw_each (pos := pos) (env := env) (kws := r)
    have e1 : (backToKw pos (keywordEach (⟨nm, e, kp⟩ :: r) env)).map (·.1) = nm :: (backToKw pos (keywordEach r env)).map (·.1) := rfl
    rw [e1, ih]
    rfl
theorem kw_of {pos : Pos} {env : PySem.Env} {kws : List Keyword} : (backToKw pos (keywordEach kws env)).all (·.1.isSome) = kws.all (fun k => k.arg.isSome) ∧
    (backToKw pos (keywordEach kws env)).any (·.1.isNone) = kws.any (fun k => k.arg.isNone) ∧ (backToKw pos (keywordEach kws env)).filterMap (·.1) = kws.filterMap fun k => k.arg := by
  have e := kw_each (pos := pos) (env := env) (kws := kws)
  generalize backToKw pos (keywordEach kws env) = l at e
  refine ⟨?_, ?_, ?_⟩
  · have : l.all (·.1.isSome) = (l.map (·.1)).all (·.isSome) := by rw [List.all_map]; rfl
    rw [this, e, List.all_map]; rfl
  · have : l.any (·.1.isNone) = (l.map (·.1)).any (·.isNone) := by rw [List.any_map]; rfl
    rw [this, e, List.any_map]; rfl
  · have : l.filterMap (·.1) = (l.map (·.1)).filterMap id := by rw [List.filterMap_map]; rfl
    rw [this, e, List.filterMap_map]; rfl
theorem some_names : ∀ {kws : List Keyword}, kws.all (fun k => k.arg.isSome) = true → kws.any (fun k => k.arg.isNone) = false ∧ (kws.filterMap fun k => k.arg).length = kws.length
  | [], _ => ⟨rfl, rfl⟩
  | ⟨nm, e, kp⟩ :: r, h => by
    have h' := band (show (nm.isSome && r.all _) = true from h)
    obtain ⟨a, b⟩ := some_names h'.2
    cases nm with
    | none => cases h'.1
    | some x => exact ⟨a, by simpa using b⟩
theorem se_callK {f j : Nat} {pm : List Nat} {es : Es} (hes : SEK D F es) : SE D F (.callK f pm j es) := by
  intro X G e σ ρ B H g g' env t fl S hc he
  unfold chkE at hc
  split at hc
  · rename_i x p kws pos
    obtain ⟨hc, h7⟩ := band hc
    obtain ⟨hc, h6⟩ := band hc
    obtain ⟨hc, h5⟩ := band hc
    obtain ⟨hc, h4⟩ := band hc
    obtain ⟨hc, h3⟩ := band hc
    obtain ⟨h1, h2⟩ := band hc
    have hn := of_decide_eq_true h1
    have hk := of_decide_eq_true h4
    obtain ⟨fa, fd, ps, m1, m2, _, m4, run⟩ := G.fn f x hn
    unfold evalE at he
    obtain ⟨rs, g1, ea, he⟩ := Out.bind_eq he
    have args := hes X G kws σ ρ B H g g1 env rs S h6 ea
    obtain ⟨k1, k2, k3⟩ := kw_of (pos := pos) (env := X.env) (kws := kws)
    obtain ⟨s1, s2⟩ := some_names h5
    have memK : (kws.filterMap (fun k => k.arg), pm) ∈ D.kwOf f := by
      refine List.mem_filterMap.mpr ⟨_, List.mem_of_getElem? hk, ?_⟩
      simp
    intro pins s I
    refine wpAny_Call_Name_kw (ld_glob I (gl_of h2) m1 ?_ (name_of h3).1)
    refine PySem.W.callWith_KW0 (h₀ := X.base) I.ok.mod.kin m2 (k1.trans h5) (thn (args pos pins s I) fun us s1 ⟨vs, H1, I1, r, q⟩ => ⟨I1.kIn, ?_⟩) ?_
    · rw [k3]
      obtain ⟨ρ', B', a1, a2, a3, a4, a5⟩ := fn_tail (t := t) (fl := fl) (g' := g') S q
      have lus : us.length = kws.length := by
        rw [← r.length]
        obtain ⟨_, _, _, _, _, z, _⟩ := q
        rw [z.length]
        have := evalEs_len ea h6
        simpa using this
      have hpm : ∀ i ∈ pm, i < us.length := fun i hi => by
        rw [lus]
        exact of_decide_eq_true (List.all_eq_true.mp h7 i hi)
      exact run X (Like.refl X) pins s1 σ H1 [] ((kws.filterMap fun k => k.arg).zip us) (pm.map fun i => us.getD i .none) (pm.map fun i => vs.getD i .non) _ (pm.map fun i => (rs.map (·.1)).getD i .non) g1 g' t fl ρ' B' I1
        (fun _ => (m4 _ memK s1 us (by rw [lus, s2])).1) (Vals.getM r pm hpm) (a1.getM pm) a2 a3 a4 he a5
    · rw [k2, s1]; rfl
  · cases hc
end Fx
end

section
set_option Elab.async false
set_option linter.all false
set_option maxRecDepth 100000
/-! Fx20: a set made of a list. -/
namespace Fx
open PySem PySem.Spec PyProof.Rows L2

/-- what a new set is -/
def set0 (w : World) : Obj := { cls := .type "set", dict := none, data := .set #[] 0 (.fresh 0 0 (!w.params.followText "set-order")) }
section
variable {P : Program} {w : World} {A : Around} {E : Value → Shared → Prop} {s : Shared}
/-- the loop that fills it: J i holds when i items are in -/
theorem fill_loop {J : Nat → Heap → Prop} {I : Addr} {fp wr : List Addr} {G : Array GenState → Array GenState → Prop} {n : Nat} {Pv : Nat → Value → Prop} {St : Nat → Shared → Prop} {Rr : Result → Shared → Prop}
    (W : WalksS P w A.in1 I fp wr G n Pv St) (S : Addr) (out : S ∉ fp) (at_ : ∀ i h h', J i h → (∀ o, h.get? S = some o → h'.get? S = some o) → J i h')
    (put : ∀ (i : Nat) (v : Value) (A' : Around) (s : Shared) (Q : Bool → Shared → Prop) (E : Value → Shared → Prop), i < n → Pv i v → J i s.heap → (∀ b h' tk, s.toks ≤ tk → J (i + 1) h' → (∀ c, c ≠ S → h'.get? c = s.heap.get? c) → Q b { s with heap := h', toks := tk }) → wpAny (model P w) A' (setAdd S v) Q E s) :
    ∀ (k i : Nat) (s : Shared), n - i = k → i ≤ n → St i s → J i s.heap → (∀ s', Moved (S :: wr) G s s' → J n s'.heap → Rr (.ok (.ret .none)) s') →
      codeAny (model P w) A (.builtin "set.update.loop" ⟨[.ref S, .ref I], []⟩) Rr s := by
  have no : S ∉ wr := fun h => out (W.sub _ h)
  have more : ∀ b ∈ wr, b ∈ S :: wr := fun b hb => List.mem_cons_of_mem _ hb
  intro k
  induction k with
  | zero =>
    intro i s hk hi st j fin
    obtain rfl : i = n := by omega
    refine codeAny_builtin F.entry_set_update_loop ?_
    rw [Around.under_plainId F.plain_set_update_loop _]
    refine wpAny_bind (m := pyNext (.ref I)) (W.done s _ _ st fun s' hm => ?_)
    exact wpAny_pure (fin s' (hm.mono more) (at_ _ _ _ j fun o e => hm.heap S o no e))
  | succ k ih =>
    intro i s hk hi st j fin
    have lt : i < n := by omega
    refine codeAny_builtin F.entry_set_update_loop ?_
    rw [Around.under_plainId F.plain_set_update_loop _]
    refine wpAny_bind (m := pyNext (.ref I)) (W.item i s _ _ lt st fun v s' pv st' hm => ?_)
    show wpAny _ A.in1 (holding [v] (setAdd S v) >>= _) _ _ s'
    refine wpAny_bind (wpAny_holding ?_)
    refine put i v _ s' _ _ lt pv (at_ _ _ _ j fun o e => hm.heap S o no e) fun b h' tk ht j' same => ?_
    refine wpAny_pure ⟨plainId_quiet F.plain_set_update_loop _, ih (i + 1) _ (by omega) lt (W.frame _ s' _ _ st' ht fun b hb o e => ?_) j' fun s2 hm2 j2 => ?_⟩
    · rw [same b fun h => out (h ▸ hb)]
      exact e
    · refine fin s2 (Moved.trans W.gtrans ((hm.mono more).then_heap ht fun b o hb e => ?_) hm2) j2
      rw [same b fun h => hb (h ▸ List.mem_cons_self)]
      exact e
theorem new_set {a : Value} {Q1 : Value → Shared → Prop} (h : Q1 (.ref s.heap.objs.size) { s with heap := s.heap.push (set0 w) }) :
    codeAny (model P w) A (.call (.builtin "set.__new__") ⟨[.type "set", a], []⟩) (wants Q1 E) s := code_set_led1 a h
set_option maxHeartbeats 3200000 in
/-- set(l) -/
theorem set_of_list {J : Nat → Addr → Heap → Prop} {l : Addr} {items : Array Value} {Q : Value → Shared → Prop} (hh : A.handled = none) (hl : s.heap.IsList l items)
    (at_ : ∀ i S h h', J i S h → (∀ o, h.get? S = some o → h'.get? S = some o) → J i S h') (j0 : ∀ S h, h.get? S = some (set0 w) → J 0 S h)
    (put : ∀ (i : Nat) (v : Value) (S : Addr) (A' : Around) (s : Shared) (Q : Bool → Shared → Prop) (E : Value → Shared → Prop), i < items.size → items[i]? = some v → J i S s.heap → (∀ b h' tk, s.toks ≤ tk → J (i + 1) S h' → (∀ c, c ≠ S → h'.get? c = s.heap.get? c) → Q b { s with heap := h', toks := tk }) → wpAny (model P w) A' (setAdd S v) Q E s)
    (h : ∀ (h' : Heap) (tk : Nat), J items.size s.heap.objs.size h' → (∀ b o, s.heap.get? b = some o → h'.get? b = some o) → Q (.ref s.heap.objs.size) { s with heap := h', toks := tk }) :
    wpAny (model P w) A (call (.type "set") [.ref l]) Q E s := by
  obtain ⟨c, tl, hmro⟩ := F.called_set.mro
  have hmade := F.called_set.made
  have hsub := F.called_set.sub
  have h1 := F.called_set.notType
  have h2 := F.called_set.canCreate
  have hct := F.typeCall_set_1 (.ref l)
  refine wpAny_call (codeAny_of_tree ?_)
  refine wpAny_pure (a := _) ⟨Code.quiet_builtin _ (by decide +kernel), codeAny_builtin F.entry_type_call ?_⟩
  rw [Around.under_plain (weight_type_call_type "set" [.ref l] []) rfl]
  repeat (any_goals (first | assumption | wp_step))
  refine codeAny_mono (new_set (a := .ref l) (E := E) (Q1 := fun obj s1 => obj = .ref s.heap.objs.size ∧ s1 = { s with heap := s.heap.push (set0 w) }) ⟨rfl, rfl⟩) fun r s1 hr => ?_
  cases r with
  | error e => exact hr
  | ok fl =>
    cases fl with
    | ret obj =>
      obtain ⟨rfl, rfl⟩ := hr
      have got : (s.heap.push (set0 w)).get? s.heap.objs.size = some (set0 w) := Heap.get?_push_size _ rfl
      have hT : Shared.TypeIs { s with heap := s.heap.push (set0 w) } (.ref s.heap.objs.size) "set" := ⟨_, got, rfl⟩
      have hli := F.called_set.init.lookup
      have hbi := F.called_set.init.bind (.ref s.heap.objs.size)
      repeat (any_goals (first | assumption | wp_step))
      refine codeAny_mono (codeAny_call_builtin (R := wants (fun r s2 => r = .none ∧ ∃ h' tk, s2 = { s with heap := h', toks := tk } ∧ J items.size s.heap.objs.size h' ∧ ∀ b o, s.heap.get? b = some o → h'.get? b = some o) E)
        F.called_set.init.plain F.entry_set_init (check_set_init_1 hT ?_)) fun r2 s2 hr2 => ?_
      · obtain ⟨⟨ocls, odict, odata, oslots⟩, hol, hcl, nl, hdl⟩ := hl
        simp only at hcl hdl
        subst hcl; subst hdl
        have hol' := Heap.get?_push_of_some (set0 w) hol
        have hsls := F.sub_list_set
        have hslf := F.sub_list_frozenset
        have hne : (Value.type "list" == Value.type "dict") = false := by decide
        have hl1 : (s.heap.push (set0 w)).IsList l items := ⟨_, hol', rfl, nl, rfl⟩
        have lS : l < s.heap.objs.size := Heap.lt_size hol
        have hh3 : A.in1.in1.in1.handled = none := by simp [hh]
        have zz0 : (s.heap.push (set0 w)).objs.size = s.heap.objs.size + 1 := Heap.size_push ..
        have neI : l ≠ (s.heap.push (set0 w)).objs.size := by rw [zz0]; exact Nat.ne_of_lt (Nat.lt_succ_of_lt lS)
        have neF : s.heap.objs.size ∉ [(s.heap.push (set0 w)).objs.size, l] := by
          rw [zz0]
          intro z
          rcases List.mem_cons.mp z with z | z
          · exact Nat.ne_of_lt (Nat.lt_succ_self _) z
          · exact Nat.ne_of_gt lS (List.mem_singleton.mp z)
        unfold Builtin.«set.__init__» noKeywords Builtin.Frozenset.updateFrom
        generalize hPI : pyIter = PI
        wp_walk
        subst hPI
        refine wpAny_pyIter_list hl1 (wpAny_bind (wpAny_runValue ?_))
        refine fill_loop (J := fun i h => J i s.heap.objs.size h) ((Walks.list hh3 _ l neI items).toS) s.heap.objs.size neF (fun i h h' => at_ i _ h h')
          (fun i v A' s' Q' E' hi hv => put i v _ A' s' Q' E' hi hv) (items.size - 0) 0 _ (by omega) (Nat.zero_le _) ⟨⟨_, Heap.get?_push_size _ rfl, rfl, rfl⟩, (hl1.push _)⟩ (j0 _ _ (Heap.get?_push_of_some _ got)) fun s' hm j => ?_
        obtain ⟨h', g2, d', tk', os'⟩ := s'
        obtain rfl : g2 = s.gens := hm.gens
        obtain rfl : d' = s.drawn := hm.drawn
        obtain rfl : os' = s.os := hm.os
        refine wpAny_pure (?_ : wpAny _ _ (ret Value.none) _ _ _)
        refine wpAny_pure ⟨rfl, h', tk', rfl, j, fun b o e => ?_⟩
        have b0 : b < s.heap.objs.size := Heap.lt_size e
        refine hm.heap b o (fun z => ?_) (Heap.get?_push_of_some _ (Heap.get?_push_of_some _ e))
        rcases List.mem_cons.mp z with z | z
        · exact Nat.ne_of_lt b0 z
        · rw [zz0] at z
          exact Nat.ne_of_lt (Nat.lt_succ_of_lt b0) (List.mem_singleton.mp z)
      · cases r2 with
        | error e => exact hr2
        | ok fl2 =>
          cases fl2 with
          | ret r =>
            obtain ⟨rfl, h', tk, rfl, j, k⟩ := hr2
            repeat (any_goals (first | assumption | wp_step))
            exact h _ _ j k
          | _ => exact hr2.elim
    | _ => exact hr.elim
end
end Fx
end

section
set_option Elab.async false
set_option linter.all false
set_option maxRecDepth 100000
/-! Fx21: sorted(set(l)), len(set(l)). -/
namespace Fx
open PySem PySem.Spec PyProof.Rows L2
variable {D : Dec} {F : Call}

section
variable {α : Type} [DecidableEq α]
theorem mem_once : ∀ {l : List α} {a : α}, a ∈ once l ↔ a ∈ l
  | [], a => Iff.rfl
  | b :: r, a => by
    have ih := mem_once (l := r) (a := a)
    unfold once
    rw [List.mem_cons, List.mem_cons, List.mem_filter, ih]
    by_cases e : a = b
    · simp [e]
    · simp [e]
theorem once_nodup : ∀ {l : List α}, (once l).Nodup
  | [] => List.nodup_nil
  | b :: r => by
    have ih := once_nodup (l := r)
    unfold once
    exact List.nodup_cons.mpr ⟨fun h => by simpa using (List.mem_filter.mp h).2, ih.filter _⟩
theorem once_snoc {l : List α} {k : α} : (once (l ++ [k])).length = if decide (k ∈ l) = true then (once l).length else (once l).length + 1 := by
  by_cases h : k ∈ l
  · rw [if_pos (decide_eq_true h)]
    refine (List.Perm.length_eq ((List.perm_ext_iff_of_nodup once_nodup once_nodup).mpr fun a => ?_))
    rw [mem_once, mem_once, List.mem_append, List.mem_singleton]
    exact ⟨fun z => z.elim id fun e => e ▸ h, .inl⟩
  · rw [if_neg (by simpa using h)]
    have nd : (k :: once l).Nodup := List.nodup_cons.mpr ⟨fun z => h (mem_once.mp z), once_nodup⟩
    refine (List.Perm.length_eq ((List.perm_ext_iff_of_nodup once_nodup nd).mpr fun a => ?_))
    rw [mem_once, List.mem_append, List.mem_singleton, List.mem_cons, mem_once]
    exact Or.comm
theorem once_le {l : List α} : (once l).length ≤ l.length := by
  induction l with
  | nil => exact Nat.le_refl _
  | cons a r ih =>
    unfold once
    rw [List.length_cons, List.length_cons]
    have := List.length_filter_le (fun x => decide (x ≠ a)) (once r)
    omega
end
theorem intsAt : ∀ {ns : List Int} {us : List Value}, Vals (ns.map V.int) us → ∀ (i : Nat) (u : Value), us[i]? = some u → ∃ k t, ns[i]? = some k ∧ u = .int k t
  | [], us, h, i, u, e => by
    cases h
    simp at e
  | n :: ns, us, h, i, u, e => by
    cases h with
    | cons h1 h2 =>
      cases i with
      | zero =>
        obtain ⟨t, rfl⟩ := h1
        cases e
        exact ⟨n, t, rfl, rfl⟩
      | succ i => exact intsAt h2 i u e
theorem blsAt : ∀ {ns : List Bool} {us : List Value}, Vals (ns.map V.bl) us → ∀ (i : Nat) (u : Value), us[i]? = some u → ∃ k, ns[i]? = some k ∧ u = .bool k
  | [], us, h, i, u, e => by
    cases h
    simp at e
  | n :: ns, us, h, i, u, e => by
    cases h with
    | cons h1 h2 =>
      cases i with
      | zero =>
        cases h1
        cases e
        exact ⟨n, rfl, rfl⟩
      | succ i => exact blsAt h2 i u e
theorem take_mem {α : Type} [DecidableEq α] {l : List α} {i : Nat} {k : α} (e : l[i]? = some k) (j : α) : (decide (j ∈ l.take i) || decide (j = k)) = decide (j ∈ l.take (i + 1)) := by
  rw [List.take_add_one, e]
  simp [List.mem_append]
theorem take_once {α : Type} [DecidableEq α] {l : List α} {i : Nat} {k : α} (e : l[i]? = some k) : (if decide (k ∈ l.take i) = true then (once (l.take i)).length else (once (l.take i)).length + 1) = (once (l.take (i + 1))).length := by
  rw [List.take_add_one, e]
  exact once_snoc.symm
theorem take_few {α : Type} [DecidableEq α] {l : List α} {i : Nat} (h : l.length ≤ 4000) : (once (l.take i)).length + 1 < scanBound := by
  have h1 := once_le (l := l.take i)
  have h2 : (l.take i).length ≤ l.length := by rw [List.length_take]; omega
  unfold scanBound
  omega
/-! ### sets of ints -/
def rSetL (X : Cx) : List V → Hp → VK → Prop := fun vs H Q => ∃ (a : Addr) (ns : List Int), vs = [.ref a] ∧ SqL X.K H a (ns.map V.int) ∧ ns.length ≤ 4000 ∧ ∀ q, H q = none → Q (.ref q) (upd H q (SetO X.w q (fun j => decide (j ∈ ns)) (once ns).length))
theorem cr_setL {X : Cx} (hc : X.calm = true) : CallR X (.type "set") (rSetL X) := by
  intro pins s σ H vs us Q I r h
  obtain ⟨a, ns, rfl, ha, few, q⟩ := h
  obtain ⟨u, rfl, ru⟩ := r.one
  cases ru
  obtain ⟨its, rv, pl, hz⟩ := I.list ha
  have hlen : its.toArray.size = ns.length := by rw [List.size_toArray, ← rv.length, List.length_map]
  refine set_of_list (J := fun i S h => SetR X.w h S (fun j => decide (j ∈ ns.take i)) (once (ns.take i)).length) (I.ok.hd hc) pl.isList (fun i S h h' j k => j.at k) (fun S h e => ?_) (fun i v S A' s Q E hi hv j put => ?_) fun h' tk j k => ?_
  · exact setR_new_at e
  · obtain ⟨z, t, e, rfl⟩ := intsAt rv i v (by rw [← Array.getElem?_toList] at hv; exact hv)
    unfold setAdd
    refine wpAny_holding (wpAny_bind ((intKind X.prog X.w).pyHash (k := z) (intKind_is _ _ _ _) ?_))
    refine setR_add_hashed (s := { s with toks := s.toks + 1 }) j (take_few few) fun h' sb r2 => ?_
    refine put _ h' _ (Nat.le_succ _) ?_ fun c hc => sb.2 c hc
    rw [take_once e] at r2
    exact r2.congr fun j => (take_mem e j).symm
  · rw [hlen, List.take_of_length_le (Nat.le_refl _)] at j
    exact ⟨.ref _, _, I.laid (t' := tk) k (Nat.le_refl _) (setO_new j), rfl, q _ (I.hok.fresh (Nat.le_refl _))⟩
theorem cr_lenSO {X : Cx} : CallR X (.builtin "len") fun vs H Q => ∃ a S n, vs = [.ref a] ∧ H a = some (SetO X.w a S n) ∧ n ≤ 4000 ∧ Q (.int (n : Nat)) H := by
  intro pins s σ H vs us Q I r h
  obtain ⟨a, S, n, rfl, ha, few, q⟩ := h
  obtain ⟨u, rfl, ru⟩ := r.one
  cases ru
  obtain ⟨o, es, ep, t, ho, hex, hd, _, _, _, _, hf, hn, _⟩ := setO_get I ha
  exact call_len_set ho hex hd hf (by rw [hn]; omega) ⟨.int (n : Nat), H, I.tok _, ⟨_, by rw [hn]⟩, q⟩
/-! ### sets of truth values -/
def rSetBL (X : Cx) : List V → Hp → VK → Prop := fun vs H Q => ∃ (a : Addr) (ns : List Bool), vs = [.ref a] ∧ SqL X.K H a (ns.map V.bl) ∧ ns.length ≤ 4000 ∧ ∀ q, H q = none → Q (.ref q) (upd H q (PpSet.SetBO X.w q (fun j => decide (j ∈ ns)) (once ns).length))
theorem setB_at0 {w : World} {h : Heap} {a : Addr} {ns : List Bool} (ho : h.get? a = some (set0 w)) : PpSet.SetB w h a (fun j => decide (j ∈ ns.take 0)) 0 := by
  refine ⟨_, #[], 0, _, ho, ⟨rfl, rfl, rfl⟩, rfl, by simp, by simp, by simp, by decide, rfl, rfl, .nil, ?_⟩
  show w.params.followText "set-order" = true ∨ (!w.params.followText "set-order") = true
  cases w.params.followText "set-order" <;> simp
theorem cr_setBL {X : Cx} (hc : X.calm = true) : CallR X (.type "set") (rSetBL X) := by
  intro pins s σ H vs us Q I r h
  obtain ⟨a, ns, rfl, ha, few, q⟩ := h
  obtain ⟨u, rfl, ru⟩ := r.one
  cases ru
  obtain ⟨its, rv, pl, hz⟩ := I.list ha
  have hlen : its.toArray.size = ns.length := by rw [List.size_toArray, ← rv.length, List.length_map]
  refine set_of_list (J := fun i S h => PpSet.SetB X.w h S (fun j => decide (j ∈ ns.take i)) (once (ns.take i)).length) (I.ok.hd hc) pl.isList (fun i S h h' j k => j.at k) (fun S h e => ?_) (fun i v S A' s Q E hi hv j put => ?_) fun h' tk j k => ?_
  · exact setB_at0 e
  · obtain ⟨z, e, rfl⟩ := blsAt rv i v (by rw [← Array.getElem?_toList] at hv; exact hv)
    unfold setAdd
    refine wpAny_holding (wpAny_bind ((PpSet.boolK X.prog X.w).pyHash (PpSet.boolK_is X.prog X.w z) ?_))
    refine PpSet.setB_add_hashed (s := { s with toks := s.toks + 1 }) j (take_few few) fun h' sb r2 => ?_
    refine put _ h' _ (Nat.le_succ _) ?_ fun c hc => sb.2 c hc
    rw [take_once e] at r2
    exact r2.congr fun j => (take_mem e j).symm
  · rw [hlen, List.take_of_length_le (Nat.le_refl _)] at j
    exact ⟨.ref _, _, I.laid (t' := tk) k (Nat.le_refl _) (PpSet.setBO_new j), rfl, q _ (I.hok.fresh (Nat.le_refl _))⟩
theorem cr_lenSBO {X : Cx} : CallR X (.builtin "len") fun vs H Q => ∃ a S n, vs = [.ref a] ∧ H a = some (PpSet.SetBO X.w a S n) ∧ n ≤ 4000 ∧ Q (.int (n : Nat)) H := by
  intro pins s σ H vs us Q I r h
  obtain ⟨a, S, n, rfl, ha, few, q⟩ := h
  obtain ⟨u, rfl, ru⟩ := r.one
  cases ru
  obtain ⟨o, es, ep, t, ho, hex, hd, _, _, _, _, hf, hn, _⟩ := PpSet.setBO_get I ha
  exact call_len_set ho hex hd hf (by rw [hn]; omega) ⟨.int (n : Nat), H, I.tok _, ⟨_, by rw [hn]⟩, q⟩
/-! ### plain law: sorting ints -/
theorem ins_perm {α : Type} (le : α → α → Bool) (a : α) : ∀ l : List α, (ins le a l).Perm (a :: l)
  | [] => .refl _
  | b :: r => by
    unfold ins
    split
    · exact .refl _
    · exact ((ins_perm le a r).cons b).trans (.swap a b r)
theorem isort_perm {α : Type} (le : α → α → Bool) : ∀ l : List α, (isort le l).Perm l
  | [] => .refl _
  | a :: r => (ins_perm le a _).trans ((isort_perm le r).cons a)
theorem ins_sorted {α : Type} {le : α → α → Bool} (tr : ∀ a b c, le a b = true → le b c = true → le a c = true) (tot : ∀ a b, le a b = true ∨ le b a = true) (a : α) : ∀ {l : List α}, l.Pairwise (fun x y => le x y = true) → (ins le a l).Pairwise (fun x y => le x y = true)
  | [], _ => by simp [ins]
  | b :: r, h => by
    obtain ⟨h1, h2⟩ := List.pairwise_cons.mp h
    unfold ins
    split
    · rename_i e
      exact List.pairwise_cons.mpr ⟨fun x hx => by
        rcases List.mem_cons.mp hx with rfl | hx
        · exact e
        · exact tr _ _ _ e (h1 x hx), h⟩
    · rename_i e
      refine List.pairwise_cons.mpr ⟨fun x hx => ?_, ins_sorted tr tot a h2⟩
      rcases List.mem_cons.mp ((ins_perm le a r).mem_iff.mp hx) with rfl | hx
      · exact (tot x b).resolve_left e
      · exact h1 x hx
theorem isort_sorted {α : Type} {le : α → α → Bool} (tr : ∀ a b c, le a b = true → le b c = true → le a c = true) (tot : ∀ a b, le a b = true ∨ le b a = true) : ∀ l : List α, (isort le l).Pairwise (fun x y => le x y = true)
  | [] => .nil
  | a :: r => ins_sorted tr tot a (isort_sorted tr tot r)
theorem sortI_eq {ns is : List Int} (h1 : ns.Pairwise (· < ·)) (h2 : ∀ k, k ∈ ns ↔ k ∈ is) : ns = isort (fun a b => decide (a ≤ b)) (once is) := by
  have s2 := isort_sorted (le := fun (a b : Int) => decide (a ≤ b)) (fun a b c => by simp; omega) (fun a b => by simp; omega) (once is)
  have nd : ns.Nodup := h1.imp fun h => by omega
  have p : ns.Perm (isort (fun a b => decide (a ≤ b)) (once is)) :=
    ((List.perm_ext_iff_of_nodup nd once_nodup).mpr fun a => by rw [h2, mem_once]).trans (isort_perm _ _).symm
  exact p.eq_of_pairwise (le := (· ≤ ·)) (fun a b _ _ x y => Int.le_antisymm x y) (h1.imp fun h => by omega) (s2.imp fun h => by simpa using h)
/-! ### the two -/
theorem chk_set {N : List Str} {sc : Scope} {es : Es} {e : Expr} {b : Bi} (hb : b = .sortSet ∨ b = .lenSet) (h : chkE D N sc (.bi b es) e = true) :
    ∃ p s a q pos, e = .Call (.Name (if b = .sortSet then "sorted" else "len") p) [.Call s [a] [] q] [] pos ∧ isGlN sc (if b = .sortSet then "sorted" else "len") = true ∧ isNameE s "set" sc = true ∧ chkEs D N sc es [a] = true := by
  unfold chkE at h
  split at h
  · rename_i x p es' pos
    obtain ⟨h1, h2⟩ := band h
    rcases hb with rfl | rfl
    · simp only [biName] at h2
      split at h2
      · rename_i heq; cases heq
      · rename_i s es'' q _
        obtain ⟨h2, h5⟩ := band h2
        obtain ⟨h2, h4⟩ := band h2
        obtain ⟨h2, h3⟩ := band h2
        have ex := of_decide_eq_true h2
        subst ex
        match es'', of_decide_eq_true h5 with
        | [a], _ => exact ⟨p, s, a, q, pos, rfl, h1, h3, h4⟩
      · rename_i heq; cases heq
      · cases h2
    · simp only [biName] at h2
      split at h2
      · rename_i heq; cases heq
      · rename_i heq; cases heq
      · rename_i s es'' q _
        obtain ⟨h2, h5⟩ := band h2
        obtain ⟨h2, h4⟩ := band h2
        obtain ⟨h2, h3⟩ := band h2
        have ex := of_decide_eq_true h2
        subst ex
        match es'', of_decide_eq_true h5 with
        | [a], _ => exact ⟨p, s, a, q, pos, rfl, h1, h3, h4⟩
      · cases h2
  · rename_i o x apos pos
    rcases hb with rfl | rfl
    · simp at h
    · simp at h
  · cases h
theorem blsV_of {w : World} {K : PySem.W.Frag} {ρ : List Addr} {B : Addr → Prop} {H : Hp} {o : Bool} : ∀ {vs : List V} {ts : List T} {A : List Addr} {is : List Bool}, Rs w K ρ B H o vs ts A → blsOf ts = some is → vs = is.map V.bl
  | _, _, _, is, .nil, e => by
    cases e
    rfl
  | _, _, _, is, .cons (t := t) (ts := ts) h1 h2, e => by
    cases t with
    | bl i =>
      obtain ⟨js, e1, e2⟩ := Option.map_eq_some_iff.mp (show (blsOf ts).map (i :: ·) = some is from e)
      subst e2
      cases h1
      rw [blsV_of h2 e1]
      rfl
    | _ => cases e
theorem se_sortSet {es : Es} (hes : SEs D F es) : SE D F (.bi .sortSet es) := by
  intro X G e σ ρ B H g g' env t fl S hc he
  obtain ⟨p, s, a, q, pos, rfl, c1, c2, c3⟩ := chk_set (.inl rfl) hc
  obtain ⟨p2, rfl, gl2⟩ := isNameE_of c2
  obtain ⟨rs, ea, hf⟩ := evalBi he
  rw [if_pos rfl] at c1 ⊢
  have oa := chkEs_ok c3 a (by simp)
  refine wE.of (pe_callB (cr_sortedSet G.calm) (gl_of c1) (G.blt _ (by decide)) boot_sorted (pa_cons (pe_callTy (cr_setL G.calm) gl2 (G.blt _ (by decide)) PyProof.Rows.boot_set (wA.pa X [a]) (by decide) (by decide) (starEach_ok oa) rfl) pa_nil (starEach_ok rfl)) (by decide) (by decide) (starEach_ok rfl) rfl) ?_
  refine (hes X G _ σ ρ B H g g' env rs S c3 ea).mono fun vs H' q => ?_
  replace hf : biSortSet rs = some (t, fl) := hf
  unfold biSortSet at hf
  split at hf
  · rename_i ts f
    obtain ⟨is, e1, hf⟩ := Option.bind_eq_some_iff.mp hf
    split at hf
    · rename_i lim
      cases hf
      obtain ⟨r, A, kp, hr, cl, h, hA⟩ := q
      obtain ⟨v, rfl, f1⟩ := h.one
      obtain ⟨a, ws, rfl, _, hl, r1⟩ := f1.sh.lst_inv
      have := intV_of r1 e1
      subst this
      refine ⟨a, is, rfl, SqL.of hl, lim.2, fun q1 n1 => ?_⟩
      refine ⟨q1, fun j => decide (j ∈ is), _, rfl, upd_same, lim.1, fun ns q2 s1 s2 s3 n2 => ?_⟩
      have e2 := sortI_eq s1 fun k => (s2 k).trans decide_eq_true_iff
      rw [e2]
      refine post_lst (rs := []) (vs := []) S ⟨r, [], kp.trans (Keep.upd n1), hr, cl.fresh n1, .nil, by simp⟩ n2 fun ρ' B' A' z => .inl ⟨rfl, [], by simp, ?_⟩
      generalize isort (fun (a b : Int) => decide (a ≤ b)) (once is) = l
      induction l with
      | nil => exact .nil
      | cons i l ih => exact .cons (A := []) (A' := []) (.int i) ih
    · cases hf
  · cases hf
theorem se_lenSet {es : Es} (hes : SEs D F es) : SE D F (.bi .lenSet es) := by
  intro X G e σ ρ B H g g' env t fl S hc he
  obtain ⟨p, s, a, q, pos, rfl, c1, c2, c3⟩ := chk_set (.inr rfl) hc
  obtain ⟨p2, rfl, gl2⟩ := isNameE_of c2
  obtain ⟨rs, ea, hf⟩ := evalBi he
  rw [if_neg (by decide)] at c1 ⊢
  have oa := chkEs_ok c3 a (by simp)
  replace hf : biLenSet rs = some (t, fl) := hf
  unfold biLenSet at hf
  split at hf
  · rename_i ts f
    split at hf
    · rename_i is e1
      split at hf
      · rename_i few
        cases hf
        refine wE.of (pe_callB cr_lenSO (gl_of c1) (G.blt _ (by decide)) PySem.boot_len (pa_cons (pe_callTy (cr_setL G.calm) gl2 (G.blt _ (by decide)) PyProof.Rows.boot_set (wA.pa X [a]) (by decide) (by decide) (starEach_ok oa) rfl) pa_nil (starEach_ok rfl)) (by decide) (by decide) (starEach_ok rfl) rfl) ?_
        refine (hes X G _ σ ρ B H g g' env _ S c3 ea).mono fun vs H' q => ?_
        obtain ⟨r, A, kp, hr, cl, h, hA⟩ := q
        obtain ⟨v, rfl, f1⟩ := h.one
        obtain ⟨a, ws, rfl, _, hl, r1⟩ := f1.sh.lst_inv
        have := intV_of r1 e1
        subst this
        refine ⟨a, is, rfl, SqL.of hl, few, fun q1 n1 => ?_⟩
        have le := once_le (l := is)
        exact ⟨q1, _, _, rfl, upd_same, by omega, Base.int ⟨r, kp.trans (Keep.upd n1), hr, cl.fresh n1⟩ _⟩
      · cases hf
    · obtain ⟨is, e1, hf⟩ := Option.bind_eq_some_iff.mp hf
      split at hf
      · rename_i few
        cases hf
        refine wE.of (pe_callB cr_lenSBO (gl_of c1) (G.blt _ (by decide)) PySem.boot_len (pa_cons (pe_callTy (cr_setBL G.calm) gl2 (G.blt _ (by decide)) PyProof.Rows.boot_set (wA.pa X [a]) (by decide) (by decide) (starEach_ok oa) rfl) pa_nil (starEach_ok rfl)) (by decide) (by decide) (starEach_ok rfl) rfl) ?_
        refine (hes X G _ σ ρ B H g g' env _ S c3 ea).mono fun vs H' q => ?_
        obtain ⟨r, A, kp, hr, cl, h, hA⟩ := q
        obtain ⟨v, rfl, f1⟩ := h.one
        obtain ⟨a, ws, rfl, _, hl, r1⟩ := f1.sh.lst_inv
        have := blsV_of r1 e1
        subst this
        refine ⟨a, is, rfl, SqL.of hl, few, fun q1 n1 => ?_⟩
        have le := once_le (l := is)
        exact ⟨q1, _, _, rfl, upd_same, by omega, Base.int ⟨r, kp.trans (Keep.upd n1), hr, cl.fresh n1⟩ _⟩
      · cases hf
  · cases hf
end Fx
end

section
set_option Elab.async false
set_option linter.all false
set_option maxRecDepth 100000
/-! Fx22: l.index(x), list(range(n)). -/
namespace Fx
open PySem PySem.Spec PyProof.Rows L2
variable {D : Dec} {F : Call}

theorem find_at {x : T} : ∀ {ts : List T} {i : Nat}, (ts.findIdx? fun z => z.eqv x) = some i → ∃ z, ts[i]? = some z ∧ z.eqv x = true ∧ ∀ m z', m < i → ts[m]? = some z' → z'.eqv x = false
  | [], i, h => by simp at h
  | t :: r, i, h => by
    rw [List.findIdx?_cons] at h
    split at h
    · rename_i e
      cases h
      exact ⟨t, rfl, e, fun m z' hm => absurd hm (Nat.not_lt_zero _)⟩
    · rename_i e
      obtain ⟨j, hj, rfl⟩ := Option.map_eq_some_iff.mp h
      obtain ⟨z, e1, e2, e3⟩ := find_at hj
      refine ⟨z, e1, e2, fun m z' hm hz => ?_⟩
      cases m with
      | zero =>
        cases hz
        simpa using e
      | succ m => exact e3 m z' (by omega) hz
theorem dats_at : ∀ {ts : List T} {i : Nat}, (T.dats ts)[i]? = (ts[i]?).map T.dat
  | [], i => by simp [T.dats]
  | t :: r, i => by
    cases i with
    | zero => rfl
    | succ i => exact dats_at (ts := r) (i := i)
theorem plains_at : ∀ {ts : List T} {i : Nat} {t : T}, T.plains ts = true → ts[i]? = some t → t.plain = true
  | [], i, t, _, h => by simp at h
  | x :: r, i, t, f, h => by
    obtain ⟨f1, f2⟩ := band (show (T.plain x && T.plains r) = true from f)
    cases i with
    | zero => cases h; exact f1
    | succ i => exact plains_at f2 h
theorem few1 {env : PySem.Env} {cpos : Pos} {e : Expr} (h : okE e = true) : ((backTo cpos (starEach [e] env)).all (fun x => !x.1) && (backToKw cpos (keywordEach [] env)).all (fun x => x.1.isSome)
      && decide ([e].length + ([] : List Keyword).length + (if ([] : List Keyword).isEmpty then 0 else 1) < 30)) = true := by
  rw [starEach_ok h]
  rfl
theorem se_meth {m : Me} {a : E} {es : Es} (ha : SE D F a) (hes : SEs D F es) : SE D F (.meth m a es) := by
  intro X G e σ ρ B H g g' env t fl S hc he
  cases m
  unfold chkE at hc
  split at hc
  · rename_i o x apos es' pos
    obtain ⟨hc, h6⟩ := band hc
    obtain ⟨hc, h5⟩ := band hc
    obtain ⟨hc, h4⟩ := band hc
    obtain ⟨hc, h3⟩ := band hc
    obtain ⟨h1, h2⟩ := band hc
    have ex := of_decide_eq_true h1
    subst ex
    match es', of_decide_eq_true h2 with
    | [e'], _ =>
      have oe := chkEs_ok h5 e' (by simp)
      unfold evalE at he
      obtain ⟨y, g1, e1, he⟩ := Out.bind_eq he
      obtain ⟨rs, g2, e2, he⟩ := Out.bind_eq he
      obtain ⟨hf, rfl⟩ := Out.of_eq he
      have hun := G.un
      refine wE.of (pe_bm PySem.F.plainAttrs_list PySem.F.slot_list_index PySem.F.type_list_index (mt_indexD (by omega)) (wE.pe X o) (wA.pa X [e']) (base_ok h4) (few1 oe) h6 (starEach_ok oe) rfl) ?_
      refine (ha X G o σ ρ B H g g1 env y.1 y.2 S h3 e1).mono fun v H1 q => ?_
      obtain ⟨yt, yf⟩ := y
      unfold methV at hf
      split at hf
      · rename_i ts x f _ heq
        simp only at heq
        subst heq
        split at hf
        · rename_i hg
          obtain ⟨hg, g4⟩ := band hg
          obtain ⟨hg, g3⟩ := band hg
          obtain ⟨g1', g2'⟩ := band hg
          obtain ⟨i, hi, hf⟩ := Option.map_eq_some_iff.mp hf
          cases hf
          obtain ⟨r, A, kp, hr, c, h, hA⟩ := id q
          have S1 := S.on kp hr c hA h.there
          obtain ⟨a, ws, rfl, _, hl, r1⟩ := h.sh.lst_inv
          refine ⟨.inl ⟨rfl, ws, SqL.of hl⟩, ?_⟩
          refine (hes X G _ σ _ _ H1 _ _ env _ S1 h5 e2).mono fun us H2 q2 => ?_
          have q3 := postL_cons S kp hr c h hA q2
          have bs := q3.base
          obtain ⟨r, A, kp, hr, cl, h, hA⟩ := q3
          have hl := h.length
          match us, hl with
          | [u], _ =>
            obtain ⟨b, ws, e3, _, hl, r1⟩ := h.r1.lst_inv
            cases e3
            obtain ⟨z, z1, z2, z3⟩ := find_at hi
            obtain ⟨d1, l1⟩ := r1.dp g2'
            obtain ⟨d2, l2⟩ := h.r2.dp g1'
            refine ⟨a, u, x.dat, T.dats ts, i, z.dat, rfl, rfl, .lst (SqL.of hl) d1, d2, ?_, ?_, ?_, ?_, fun m z' hm hz => ?_, bs.int _⟩
            · show ((PyData.list (T.dats ts)).canLay0 && decide ((PyData.list (T.dats ts)).depth ≤ 64)) = true
              refine Bool.and_eq_true_iff.mpr ⟨l1, decide_eq_true ?_⟩
              have := of_decide_eq_true g4
              show PyData.depthAll (T.dats ts) + 1 ≤ 64
              rw [T.dats_depth]
              omega
            · show (x.dat.canLay0 && decide (x.dat.depth ≤ 64)) = true
              refine Bool.and_eq_true_iff.mpr ⟨l2, decide_eq_true ?_⟩
              rw [T.dat_depth]
              exact of_decide_eq_true g3
            · rw [dats_at, z1]; rfl
            · rw [T.dat_eqv _ _ (plains_at g2' z1) g1']
              exact z2
            · rw [dats_at] at hz
              obtain ⟨y, hy, rfl⟩ := Option.map_eq_some_iff.mp hz
              rw [T.dat_eqv _ _ (plains_at g2' hy) g1']
              exact z3 m y hm hy
        · cases hf
      · cases hf
  · cases hc
theorem se_lrng1 {a : E} (ha : SE D F a) : SE D F (.lrng1 a) := by
  intro X G e σ ρ B H g g' env t fl S hc he
  unfold chkE at hc
  split at hc
  · rename_i l r a' q pos
    obtain ⟨hc, h3⟩ := band hc
    obtain ⟨h1, h2⟩ := band hc
    obtain ⟨p1, rfl, gl1⟩ := isNameE_of h1
    obtain ⟨p2, rfl, gl2⟩ := isNameE_of h2
    unfold evalE at he
    obtain ⟨x, g1, ea, he⟩ := Out.bind_eq he
    split at he
    · rename_i i hx
      split at he
      · rename_i hs
        cases he
        obtain ⟨s1, s2⟩ := band hs
        obtain ⟨b1, b2⟩ := smallI_of s1
        have oa := okE_chk h3
        refine wE.of (pe_listRg G.calm gl1 (G.blt _ (by decide)) (prg_1 gl2 (G.blt _ (by decide)) (wE.pe X a') (starEach_ok oa)) (starEach_ok rfl)) (one ha G S h3 ea fun v H' q z => ?_)
        obtain ⟨r, A, kp, hr, cl, h, hA⟩ := id q
        have e1 := h.r1
        rw [hx] at e1
        have e2 := e1.int_inv
        subst e2
        have s2' : i.toNat ≤ 16777216 := of_decide_eq_true s2
        refine ⟨i, rfl, ⟨by omega, by omega, b1, b2, by omega⟩, fun p np => ?_⟩
        refine post_lst S q np fun ρ' B' A' z => .inl ⟨rfl, [], by simp, ?_⟩
        unfold rgV rangeT
        rw [Int.sub_zero]
        generalize List.range i.toNat = l
        induction l with
        | nil => exact .nil
        | cons i l ih => exact .cons (A := []) (A' := []) (.int _) ih
      · cases he
    · cases he
  · cases hc
end Fx
end

section
set_option Elab.async false
set_option linter.all false
set_option maxRecDepth 100000
/-! Fx23: repr, sorted. -/
namespace Fx
open PySem PySem.Spec PyProof.Rows L2
variable {D : Dec} {F : Call}

theorem R.leafv {w : World} {K : PySem.W.Frag} {ρ : List Addr} {B : Addr → Prop} {H : Hp} {v : V} {t : T} (h : R w K ρ B H false v t []) (p : t.plain = true) {X : Cx} {pins : List (Addr × Obj)} {σ : L2.St} {s : Shared} (I : L2.Inv X pins σ H s) {u : Value} (ru : RelV v u) (g : X.A.guards = some []) (hu : X.A.units + 100 < cLine) (hk : K = X.K)
    (dp : t.deep ≤ 64) (sh : t.dat.showable = true) (sz : t.dat.shown.length ≤ sizeLine) {Q : Value → Shared → Prop} (q : ∀ h' tk u, (∀ b o, s.heap.get? b = some o → h'.get? b = some o) → Q (.str t.dat.shown u) { s with heap := h', toks := tk }) : wpAny (model X.prog X.w) X.A (call (.builtin "repr") [u]) Q X.xe s := by
  subst hk
  obtain ⟨d1, l1⟩ := h.dp p
  obtain ⟨as, r⟩ := Dp.reads I _ _ u d1 ru
  have hn := PyData.noDict_hsm (as := as) (PyData.hasDict_of_canLay _ l1)
  have hd : t.dat.depth ≤ 64 := by rw [T.dat_depth]; exact dp
  have q0 : ∀ t', Q (.str t.dat.shown t') { s with toks := t' + 1 } := fun t' => q s.heap _ _ fun _ _ e => e
  cases h with
  | non => cases ru; exact PySem.P.repr_of_none (by have := q0 s.toks; simpa [T.dat, PyData.shown] using this)
  | bl b => cases ru; exact PySem.P.repr_of_bool (by have := q0 s.toks; simpa [T.dat, PyData.shown] using this)
  | int i =>
    obtain ⟨tk, rfl⟩ := ru
    exact PySem.P.repr_of_int (by simpa [T.dat, PyData.showable] using sh) (by have := q0 s.toks; simpa [T.dat, PyData.shown] using this)
  | str x hx =>
    obtain ⟨tk, rfl⟩ := ru
    exact PySem.P.repr_of_str (by have := q0 s.toks; simpa [T.dat, PyData.shown] using this) (by simpa [T.dat, PyData.shown] using sz)
  | tup h1 h2 => cases ru; exact repr_of_reads' r sh hn g (by omega) (fun _ _ e => e) (fun h' u tk k => q h' tk u k) sz
  | lst0 h0 h1 h2 => cases ru; exact repr_of_reads' r sh hn g (by omega) (fun _ _ e => e) (fun h' u tk k => q h' tk u k) sz
  | fro h1 h2 => cases p
  | cell h => cases p
  | dicS h1 h2 h3 => cases p
  | dicN h1 h2 h3 h4 hk h5 h6 => cases p
/-- repr of data -/
def rRepr (X : Cx) : List V → Hp → VK → Prop := fun vs H Q => ∃ v t ρ B s, vs = [v] ∧ R X.w X.K ρ B H false v t [] ∧ t.plain = true ∧ t.deep ≤ 64 ∧ reprV t = some s ∧ Q (.str ⟨s.toArray⟩) H
theorem cr_repr {X : Cx} (g : X.A.guards = some []) (hu : X.A.units + 100 < cLine) : CallR X (.builtin "repr") (rRepr X) := by
  intro pins s σ H vs us Q I r h
  obtain ⟨v, t, ρ, B, z, rfl, rt, p, dp, e, q⟩ := h
  obtain ⟨u, rfl, ru⟩ := r.one
  unfold reprV at e
  split at e
  · rename_i c
    cases e
    obtain ⟨c, c3⟩ := band c
    obtain ⟨c1, c2⟩ := band c
    refine rt.leafv p I ru g hu rfl dp c1 (of_decide_eq_true c2) fun h' tk u k => ⟨.str t.dat.shown, H, I.kept k, ⟨_, rfl⟩, ?_⟩
    have e : (⟨t.dat.shown.cps.toList.toArray⟩ : Str) = t.dat.shown := by simp
    rw [e] at q
    exact q
  · cases e
theorem se_repr {es : Es} (hes : SEs D F es) : SE D F (.bi .repr es) := by
  intro X G e σ ρ B H g g' env t fl S hc he
  obtain ⟨p, e', r, pos, rfl, c1, c2⟩ := chk_bi (b := .repr) rfl hc
  obtain ⟨rs, ea, hf⟩ := evalBi he
  refine wE_blt hes G S c1 c2 ea (by decide) (by decide) (by decide) (.inl ⟨PyProof.Rows.boot_repr, cr_repr G.gd G.un⟩) fun vs H' q z => ?_
  replace hf : biRepr rs = some (t, fl) := hf
  unfold biRepr at hf
  split at hf
  · rename_i x f
    split at hf
    · rename_i c
      obtain ⟨s, e1, e2⟩ := Option.map_eq_some_iff.mp hf
      cases e2
      obtain ⟨c1, c2⟩ := band c
      have bs := q.base
      obtain ⟨r, A, kp, hr, cl, h, hA⟩ := q
      obtain ⟨v, rfl, f1⟩ := h.one
      refine ⟨v, x, _, _, s, rfl, f1.sh, c1, of_decide_eq_true c2, e1, bs.post fun ρ B => .str s fun c hc => ?_⟩
      unfold reprV at e1
      split at e1
      · rename_i cc
        cases e1
        obtain ⟨_, c3⟩ := band cc
        exact of_decide_eq_true (List.all_eq_true.mp c3 c hc)
      · cases e1
    · cases hf
  · cases hf
/-! ### sorting -/
section
variable {α : Type} {le : α → α → Bool}
theorem ins_filter (tr : PySem.W.TotalLe le) {p : α → Bool} (hp : ∀ a b, p a = true → p b = true → le a b = true) (a : α) : ∀ l : List α, (ins le a l).filter p = (a :: l).filter p
  | [] => rfl
  | b :: r => by
    unfold ins
    split
    · rfl
    · rename_i e
      have ih := ins_filter tr hp a r
      by_cases pa : p a = true
      · have pb : p b = false := by
          cases q : p b with
          | false => rfl
          | true => exact absurd (hp a b pa q) e
        rw [List.filter_cons_of_neg (by rw [pb]; simp), ih, List.filter_cons_of_pos pa, List.filter_cons_of_pos pa, List.filter_cons_of_neg (by rw [pb]; simp)]
      · rw [List.filter_cons_of_neg pa, List.filter_cons, ih, List.filter_cons_of_neg pa, List.filter_cons]
theorem isort_filter (tr : PySem.W.TotalLe le) {p : α → Bool} (hp : ∀ a b, p a = true → p b = true → le a b = true) : ∀ l : List α, (isort le l).filter p = l.filter p
  | [] => rfl
  | a :: r => by
    show (ins le a (isort le r)).filter p = _
    rw [ins_filter tr hp, List.filter_cons, isort_filter tr hp r, List.filter_cons]
theorem isort_merge (tr : PySem.W.TotalLe le) (l : List α) : isort le l = l.mergeSort le := by
  refine PySem.W.sort_unique tr (isort_sorted tr.trans tr.total l) fun c => isort_filter tr (fun a b ha hb => ?_) l
  obtain ⟨_, a2⟩ := band ha
  obtain ⟨b1, _⟩ := band hb
  exact tr.trans _ _ _ a2 b1
end
theorem leT_total : PySem.W.TotalLe leT := PySem.W.sortLe_total (PyProof.Rows.listOrd PyProof.Rows.itemOrd) false fun b => PySem.W.keyToks (T.dat b)
theorem each_of {α β : Type} {P : α → β → Prop} : ∀ {as : List α} {bs : List β}, as.length = bs.length → (∀ (i : Nat) (a : α) (b : β), as[i]? = some a → bs[i]? = some b → P a b) → PySem.W.EachIs P as bs
  | [], [], _, _ => .nil
  | a :: as, b :: bs, hl, h => .cons (h 0 a b rfl rfl) (each_of (by simpa using hl) fun i x y ex ey => h (i + 1) x y ex ey)
theorem each_at {α β : Type} {P : α → β → Prop} {as : List α} {bs : List β} (h : PySem.W.EachIs P as bs) : ∀ (i : Nat) (a : α) (b : β), as[i]? = some a → bs[i]? = some b → P a b := by
  induction h with
  | nil => intro i a b e; simp at e
  | cons h1 h2 ih =>
    intro i a b ea eb
    cases i with
    | zero => cases ea; cases eb; exact h1
    | succ i => exact ih i a b ea eb
theorem rs_each {w : World} {K : PySem.W.Frag} {ρ : List Addr} {B : Addr → Prop} {H : Hp} : ∀ {us : List Value} {ts : List T}, PySem.W.EachIs (fun u t => ∃ v, RelV v u ∧ R w K ρ B H false v t []) us ts → ∃ vs, Vals vs us ∧ Rs w K ρ B H false vs ts []
  | _, _, .nil => ⟨[], .nil, .nil⟩
  | _, _, .cons ⟨v, a, b⟩ h => by
    obtain ⟨vs, c, d⟩ := rs_each h
    exact ⟨v :: vs, .cons a c, .cons (A := []) (A' := []) b d⟩
theorem each_rs {w : World} {K : PySem.W.Frag} {ρ : List Addr} {B : Addr → Prop} {H : Hp} : ∀ {us : List Value} {vs : List V} {ts : List T}, Vals vs us → Rs w K ρ B H false vs ts [] → PySem.W.EachIs (fun u t => ∃ v, RelV v u ∧ R w K ρ B H false v t []) us ts
  | [], [], [], _, _ => .nil
  | [], [], _ :: _, _, h => by cases h
  | [], _ :: _, _, h, _ => by cases h
  | _ :: _, [], _, h, _ => by cases h
  | u :: us, v :: vs, ts, hv, h => by
    cases hv with
    | cons a b =>
      generalize hA : ([] : List Addr) = A0 at h
      cases h with
      | cons c d =>
        obtain ⟨rfl, rfl⟩ := List.append_eq_nil_iff.mp hA.symm
        exact .cons ⟨v, a, c⟩ (each_rs b d)
theorem notTup_dat {t : T} (h : notTup t = true) (p : t.plain = true) : t.dat ≠ .none ∧ ∀ xs, t.dat ≠ .tuple xs := by
  cases t <;> first | (cases h; done) | (cases p; done) | exact ⟨fun e => by simp [T.dat] at e, fun xs e => by simp [T.dat] at e⟩
theorem isTup1_dat {t : T} (h : isTup1 t = true) : ∃ x r, t.dat = .tuple (x :: r) := by
  cases t with
  | tup ts =>
    cases ts with
    | nil => cases h
    | cons x r => exact ⟨x.dat, T.dats r, rfl⟩
  | _ => cases h
theorem deeps_mem : ∀ {ts : List T} {t : T}, t ∈ ts → t.deep ≤ T.deeps ts
  | x :: r, t, h => by
    show t.deep ≤ max (T.deep x) (T.deeps r)
    rcases List.mem_cons.mp h with rfl | h
    · omega
    · have := deeps_mem h
      omega
theorem plains_mem : ∀ {ts : List T} {t : T}, T.plains ts = true → t ∈ ts → t.plain = true
  | x :: r, t, f, h => by
    obtain ⟨f1, f2⟩ := band (show (T.plain x && T.plains r) = true from f)
    rcases List.mem_cons.mp h with rfl | h
    · exact f1
    · exact plains_mem f2 h
def rSorted (X : Cx) : List V → Hp → VK → Prop := fun vs H Q => ∃ a ws ts ρ B, vs = [.ref a] ∧ H a = some (.lst ws) ∧ Rs X.w X.K ρ B H false ws ts [] ∧ sortOk ts = true ∧
  ∀ p ws', H p = none → Rs X.w X.K ρ B H false ws' (isort leT ts) [] → Q (.ref p) (upd H p (.lst ws'))
theorem cr_sorted {X : Cx} (hu : X.A.units + 100 < cLine) : CallR X (.builtin "sorted") (rSorted X) := by
  intro pins s σ H vs us Q I r h
  obtain ⟨a, ws, ts, ρ, B, rfl, ha, rs, ok, q⟩ := h
  obtain ⟨u, rfl, ru⟩ := r.one
  cases ru
  obtain ⟨ok, k4⟩ := band ok
  obtain ⟨ok, k3⟩ := band ok
  obtain ⟨k1, k2⟩ := band ok
  have k2' := of_decide_eq_true k2
  obtain ⟨its, rv, pl, hz⟩ := I.list (SqL.of ha)
  have each := each_rs rv rs
  have hl := rs.length
  refine PySem.W.sorted_data (vs := its) (bs := ts) (enc := T.dat) (R := fun u t => ∃ v, RelV v u ∧ R X.w X.K ρ B H false v t []) pl.isList each (each_of each.length fun i u t eu et => ?_) (fun d hd d' hd' => ?_) ?_ (by rw [← hl]; exact hz) (fun t ht => ?_) fun out ho eo => ?_
  · obtain ⟨v, a, b⟩ := each_at each i u t eu et
    exact Dp.reads I _ v u (b.dp (plains_at k1 et)).1 a
  · obtain ⟨t, ht, rfl⟩ := List.mem_map.mp hd
    obtain ⟨t', ht', rfl⟩ := List.mem_map.mp hd'
    exact List.all_eq_true.mp (List.all_eq_true.mp k3 t ht) t' ht'
  · rcases Bool.or_eq_true_iff.mp k4 with k4 | k4
    · refine .inr fun d hd => ?_
      obtain ⟨t, ht, rfl⟩ := List.mem_map.mp hd
      exact notTup_dat (List.all_eq_true.mp k4 t ht) (plains_mem k1 ht)
    · refine .inl fun d hd => ?_
      obtain ⟨t, ht, rfl⟩ := List.mem_map.mp hd
      exact isTup1_dat (List.all_eq_true.mp k4 t ht)
  · have := deeps_mem ht
    rw [T.dat_depth]
    omega
  · rw [show ts.mergeSort (PySem.W.dataLe false T.dat) = isort leT ts from (isort_merge leT_total ts).symm] at eo
    obtain ⟨ws', v1, r1⟩ := rs_each eo
    obtain ⟨c, hc⟩ := sortedAll_at s.heap its out.toArray
    have fr : H (s.heap.objs.size + 1) = none := I.hok.fresh (Nat.le_succ _)
    exact ⟨.ref _, upd H (s.heap.objs.size + 1) (.lst ws'), I.laid (t' := s.toks) (fun b o e => sortedAll_old e) (Nat.le_succ _) (show ObjOk X.prog X.w _ _ _ (.lst ws') from ⟨by rw [r1.length, (isort_perm leT ts).length_eq, ← hl]; exact hz, out, c, v1, hc⟩), rfl, q _ ws' fr r1⟩
theorem se_sorted {es : Es} (hes : SEs D F es) : SE D F (.bi .sorted es) := by
  intro X G e σ ρ B H g g' env t fl S hc he
  obtain ⟨p, e', r, pos, rfl, c1, c2⟩ := chk_bi (b := .sorted) rfl hc
  obtain ⟨rs, ea, hf⟩ := evalBi he
  refine wE_blt hes G S c1 c2 ea (by decide) (by decide) (by decide) (.inl ⟨PyProof.Rows.boot_sorted, cr_sorted G.un⟩) fun vs H' q z => ?_
  replace hf : biSorted rs = some (t, fl) := hf
  unfold biSorted at hf
  split at hf
  · rename_i ts f
    obtain ⟨xs, e1, e2⟩ := Option.map_eq_some_iff.mp hf
    unfold sortV at e1
    split at e1
    · rename_i ok
      cases e1
      cases e2
      obtain ⟨r, A, kp, hr, cl, h, hA⟩ := id q
      obtain ⟨v, rfl, f1⟩ := h.one
      obtain ⟨a, ws, rfl, _, hl, r1⟩ := f1.sh.lst_inv
      refine ⟨a, ws, ts, _, _, rfl, hl, r1, ok, fun p ws' np r2 => ?_⟩
      refine post_lstH S kp hr cl h hA np ?_
      split
      · rename_i ff
        exact .inl ⟨rfl, [], by simp, (r2.flat ff).1⟩
      · exact .inr ⟨rfl, r2⟩
    · cases e1
  · cases hf
end Fx
end

section
set_option Elab.async false
set_option linter.all false
set_option maxRecDepth 100000
/-! Fx24: sum(lists, []). -/
namespace Fx
open PySem PySem.Spec PyProof.Rows L2
variable {D : Dec} {F : Call}

/-- a list's object -/
def lob (its : List Value) (n : Nat) : Obj := { cls := .type "list", data := .seq its.toArray n }
section
variable {P : Program} {w : World} {A : Around} {E : Value → Shared → Prop} {s : Shared}
theorem sumL_loop {I : Addr} {fp wr : List Addr} {G : Array GenState → Array GenState → Prop} {Pv : Nat → Value → Prop} {St : Nat → Shared → Prop} {Rr : Result → Shared → Prop} {xs : List (Addr × List Value)}
    (W : WalksS P w A.in1 I fp wr G xs.length Pv St) (S : Addr) (out : S ∉ fp) (val : ∀ (i : Nat) (v : Value), Pv i v → ∃ q : Addr × List Value, xs[i]? = some q ∧ v = .ref q.1) (few : (xs.flatMap (·.2)).length ≤ sizeLine) :
    ∀ (k i : Nat) (s : Shared) (p : Addr) (c : Nat), xs.length - i = k → i ≤ xs.length → St i s → s.heap.get? S = some (lob [.ref p] c) → p ≠ S → p ∉ wr → (∀ q ∈ xs, q.1 ≠ S ∧ q.1 ∉ wr ∧ ∃ m, s.heap.get? q.1 = some (lob q.2 m)) →
      (∃ m, s.heap.get? p = some (lob ((xs.take i).flatMap (·.2)) m)) → (∀ b ∈ fp, b < S) →
      (∀ s' p' m, Moved (S :: wr) G s s' → (i = xs.length → p' = p) → (i < xs.length → S < p') → s'.heap.get? p' = some (lob (xs.flatMap (·.2)) m) → Rr (.ok (.ret (.ref p'))) s') →
      codeAny (model P w) A (.builtin "sum.loop" ⟨[.ref I, .ref S, rawInt 2, rawInt 0], []⟩) Rr s := by
  have no : S ∉ wr := fun h => out (W.sub _ h)
  have more : ∀ b ∈ wr, b ∈ S :: wr := fun b hb => List.mem_cons_of_mem _ hb
  intro k
  induction k with
  | zero =>
    intro i s p c hk hi st hS pS pw each ⟨m, hp⟩ hfp fin
    obtain rfl : i = xs.length := by omega
    refine codeAny_builtin F.entry_sum_loop ?_
    rw [Around.under_plainId F.plain_sum_loop _]
    refine wpAny_bind (m := seqItems? (.ref S)) (wpAny_seqItems hS rfl ?_)
    refine wpAny_bind (m := tryCatch (pyNext (.ref I)) _) (wpAny_tryCatch (W.done s _ _ st fun s' hm => ?_))
    rw [List.take_length] at hp
    exact wpAny_pure (fin s' p m (hm.mono more) (fun _ => rfl) (fun h => absurd h (Nat.lt_irrefl _)) (hm.heap p _ pw hp))
  | succ k ih =>
    intro i s p c hk hi st hS pS pw each ⟨m, hp⟩ hfp fin
    have lt : i < xs.length := by omega
    refine codeAny_builtin F.entry_sum_loop ?_
    rw [Around.under_plainId F.plain_sum_loop _]
    refine wpAny_bind (m := seqItems? (.ref S)) (wpAny_seqItems hS rfl ?_)
    refine wpAny_bind (m := tryCatch (pyNext (.ref I)) _) (wpAny_tryCatch (W.item i s _ _ lt st fun v s' pv st' hm => ?_))
    obtain ⟨q, hq, rfl⟩ := val i v pv
    have qm : q ∈ xs := List.mem_of_getElem? hq
    obtain ⟨q1, q2, mq, q3⟩ := each q qm
    have hS' := hm.heap S _ no hS
    have hp' := hm.heap p _ pw hp
    have hq' := hm.heap q.1 _ q2 q3
    have lS : S < s'.heap.objs.size := Heap.lt_size hS'
    have lp : p < s'.heap.objs.size := Heap.lt_size hp'
    have tk : (xs.take (i + 1)).flatMap (·.2) = (xs.take i).flatMap (·.2) ++ q.2 := by
      rw [List.take_add_one, hq, List.flatMap_append]
      simp
    have sz : ((xs.take i).flatMap (·.2)).length + q.2.length ≤ sizeLine := by
      have e : xs.flatMap (·.2) = (xs.take (i + 1)).flatMap (·.2) ++ (xs.drop (i + 1)).flatMap (·.2) := by rw [← List.flatMap_append, List.take_append_drop]
      rw [e, List.length_append, tk, List.length_append] at few
      omega
    show wpAny _ A.in1 ((holding [Value.ref q.1] (binaryOp .Add (.ref p) (.ref q.1))).attempt >>= _) _ _ _
    refine wpAny_bind (wpAny_attempt (wpAny_holding (PySem.P.add_list hp' hq' ?_ (by rw [List.size_toArray, List.size_toArray]; exact sz))))
    have ea : ((xs.take i).flatMap (·.2)).toArray ++ q.2.toArray = ((xs.take (i + 1)).flatMap (·.2)).toArray := by rw [tk]; simp
    rw [ea]
    generalize hN : ({ cls := .type "list", data := .seq ((xs.take (i + 1)).flatMap (·.2)).toArray } : Obj) = nu
    have hS1 : (s'.heap.push nu).get? S = some (lob [.ref p] c) := Heap.get?_push_of_some _ hS'
    refine wpAny_bind (m := updateSeq S (fun _ => #[.ref s'.heap.objs.size])) (wpAny_updateSeq hS1 rfl ?_)
    have hS2 := Heap.get?_update_self (Obj.mapSeq fun _ => #[Value.ref s'.heap.objs.size]) hS1 rfl
    refine wpAny_bind (wpAny_letGo ?_)
    refine wpAny_bind (wpAny_updateSeq hS2 rfl ?_)
    have keep : ∀ b o, b ≠ S → s'.heap.get? b = some o → (((s'.heap.push nu).update S (Obj.mapSeq fun _ => #[Value.ref s'.heap.objs.size])).update S (Obj.mapSeq fun _ => #[Value.ref s'.heap.objs.size])).get? b = some o := fun b o hb e =>
      (Heap.get?_update_other _ _ (Ne.symm hb)).trans ((Heap.get?_update_other _ _ (Ne.symm hb)).trans (Heap.get?_push_of_some _ e))
    have got : (((s'.heap.push nu).update S (Obj.mapSeq fun _ => #[Value.ref s'.heap.objs.size])).update S (Obj.mapSeq fun _ => #[Value.ref s'.heap.objs.size])).get? s'.heap.objs.size = some nu :=
      (Heap.get?_update_other _ _ (Nat.ne_of_lt lS)).trans ((Heap.get?_update_other _ _ (Nat.ne_of_lt lS)).trans (Heap.get?_push_size _ (by rw [← hN]; rfl)))
    have same : Moved (S :: wr) G s { s' with heap := ((s'.heap.push nu).update S (Obj.mapSeq fun _ => #[Value.ref s'.heap.objs.size])).update S (Obj.mapSeq fun _ => #[Value.ref s'.heap.objs.size]) } :=
      (hm.mono more).then_heap (Nat.le_refl _) fun b o hb e => keep b o (fun h => hb (h ▸ List.mem_cons_self)) e
    have fpl : ∀ b ∈ fp, b ≠ S := fun b hb h => out (h ▸ hb)
    refine wpAny_pure ⟨plainId_quiet F.plain_sum_loop _, ih (i + 1) _ s'.heap.objs.size _ (by omega) lt (W.frame _ s' _ _ st' (Nat.le_refl _) fun b hb o e => keep b o (fpl b hb) e) (Heap.get?_update_self _ hS2 rfl) (Nat.ne_of_gt lS) (fun z => ?_) (fun q0 hq0 => ?_) ⟨0, by rw [got, ← hN]; rfl⟩ hfp fun s2 p2 m2 hm2 f1 f2 f3 => ?_⟩
    · exact absurd (Nat.lt_trans (hfp _ (W.sub _ z)) lS) (Nat.lt_irrefl _)
    · obtain ⟨z1, z2, m0, z3⟩ := each q0 hq0
      exact ⟨z1, z2, m0, keep _ _ z1 (hm.heap _ _ z2 z3)⟩
    · refine fin s2 p2 m2 (Moved.trans W.gtrans same hm2) (fun h => absurd h (Nat.ne_of_lt lt)) (fun _ => ?_) f3
      by_cases e : i + 1 = xs.length
      · rw [f1 e]; exact lS
      · exact f2 (by omega)
theorem args_sum2 (a b : Value) : argsOk "sum" ⟨[a, b], []⟩ := by unfold argsOk; kernel_rfl
theorem call_sumL {l b : Addr} {xs : List (Addr × List Value)} {nb : Nat} {Q : Value → Shared → Prop} (hh : A.handled = none) (hl : s.heap.IsList l (xs.map fun q => Value.ref q.1).toArray) (hb : s.heap.get? b = some (lob [] nb))
    (each : ∀ q ∈ xs, ∃ m, s.heap.get? q.1 = some (lob q.2 m)) (few : (xs.flatMap (·.2)).length ≤ sizeLine)
    (fin : ∀ h' tk p m, (∀ b o, s.heap.get? b = some o → h'.get? b = some o) → (xs = [] → p = b) → (xs ≠ [] → s.heap.objs.size ≤ p) → h'.get? p = some (lob (xs.flatMap (·.2)) m) → Q (.ref p) { s with heap := h', toks := tk }) :
    wpAny (model P w) A (call (.builtin "sum") [.ref l, .ref b]) Q E s := by
  refine call_function_tree F.kind_sum F.plain_sum F.entry_sum (args_sum2 _ _) ?_
  unfold Builtin.«sum»
  simp only [List.length_cons, List.length_nil]
  rw [if_neg (by decide)]
  refine wpAny_bind (wpAny_of_eq (show Builtin.Builtins.bindParams "sum" ["start"] 0 ⟨[.ref b], []⟩ = pure [some (.ref b)] from rfl) ?_)
  refine wpAny_bind (wpAny_pyIter_list hl ?_)
  generalize hIt : ({ cls := .type "list_iterator", data := .fields #[.ref l, .int 0 0] } : Obj) = it
  have lb : b < s.heap.objs.size := Heap.lt_size hb
  have hb1 : (s.heap.push it).get? b = some (lob [] nb) := Heap.get?_push_of_some _ hb
  have tyb : Shared.TypeIs { s with heap := s.heap.push it } (.ref b) "list" := ⟨_, hb1, rfl⟩
  refine wpAny_bind (wpAny_pure ?_)
  simp only [List.forIn_cons, List.forIn_nil]
  refine wpAny_bind (wpAny_bind (wpAny_bind (wpAny_isInstance (T := "list") (b := false) tyb F.sub_list_str ?_)))
  simp only [Bool.false_eq_true, if_false]
  refine wpAny_pure (wpAny_bind (wpAny_bind (wpAny_isInstance (T := "list") (b := false) tyb F.sub_list_bytes ?_)))
  simp only [Bool.false_eq_true, if_false]
  refine wpAny_pure (wpAny_bind (wpAny_bind (wpAny_isInstance (T := "list") (b := false) tyb F.sub_list_bytearray ?_)))
  simp only [Bool.false_eq_true, if_false]
  refine wpAny_pure (wpAny_pure ?_)
  refine wpAny_bind (wpAny_newObj_type ?_)
  have z1 : (s.heap.push it).objs.size = s.heap.objs.size + 1 := Heap.size_push ..
  obtain ⟨ol, hol, _⟩ := id hl
  have ll : l < s.heap.objs.size := Heap.lt_size hol
  have neI : l ≠ s.heap.objs.size := Nat.ne_of_lt ll
  have hh3 : A.in1.handled = none := by simp [hh]
  have lq : ∀ q ∈ xs, q.1 < s.heap.objs.size := fun q hq => let ⟨m, e⟩ := each q hq; Heap.lt_size e
  have W := (Walks.list (prog := P) (w := w) (A := A.in1) hh3 s.heap.objs.size l neI (xs.map fun q => Value.ref q.1).toArray).toS
  have hn : (xs.map fun q => Value.ref q.1).toArray.size = xs.length := by simp
  rw [hn] at W
  refine wpAny_pure ⟨plainId_quiet F.plain_sum_loop _, sumL_loop W (s.heap.push it).objs.size (fun z => ?_) (fun i v hv => ?_) few (xs.length - 0) 0 _ b 0 rfl (Nat.zero_le _) ?_ (Heap.get?_push_size _ rfl) (fun z => ?_) (fun z => ?_) (fun q hq => ?_) ⟨nb, Heap.get?_push_of_some _ hb1⟩ (fun b hb => ?_) fun s' p' m hm f1 f2 f3 => ?_⟩
  · rw [z1] at z
    rcases List.mem_cons.mp z with z | z
    · exact Nat.ne_of_gt (Nat.lt_succ_self _) z
    · exact Nat.ne_of_gt (Nat.lt_succ_of_lt ll) (List.mem_singleton.mp z)
  · have hv' : (xs.map fun q => Value.ref q.1)[i]? = some v := by simpa using hv
    rw [List.getElem?_map] at hv'
    obtain ⟨q, e1, e2⟩ := Option.map_eq_some_iff.mp hv'
    exact ⟨q, e1, e2.symm⟩
  · subst hIt
    exact ⟨⟨_, Heap.get?_push_of_some _ (Heap.get?_push_size _ rfl), rfl, rfl⟩, (hl.push _).push _⟩
  · rw [z1] at z
    exact Nat.ne_of_lt (Nat.lt_succ_of_lt lb) z
  · exact Nat.ne_of_lt lb (List.mem_singleton.mp z)
  · obtain ⟨m, e⟩ := each q hq
    refine ⟨?_, ?_, m, Heap.get?_push_of_some _ (Heap.get?_push_of_some _ e)⟩
    · rw [z1]; exact Nat.ne_of_lt (Nat.lt_succ_of_lt (lq q hq))
    · exact fun z => Nat.ne_of_lt (lq q hq) (List.mem_singleton.mp z)
  · rw [z1]
    rcases List.mem_cons.mp hb with rfl | hb
    · exact Nat.lt_succ_self _
    · rw [List.mem_singleton.mp hb]; exact Nat.lt_succ_of_lt ll
  · obtain ⟨h', g2, d', tk', os'⟩ := s'
    obtain rfl : g2 = s.gens := hm.gens
    obtain rfl : d' = s.drawn := hm.drawn
    obtain rfl : os' = s.os := hm.os
    refine fin h' tk' p' m (fun c o e => ?_) (fun e => f1 (by rw [e]; rfl)) (fun e => ?_) f3
    · have c0 : c < s.heap.objs.size := Heap.lt_size e
      refine hm.heap c o (fun z => ?_) (Heap.get?_push_of_some _ (Heap.get?_push_of_some _ e))
      rcases List.mem_cons.mp z with z | z
      · rw [z1] at z
        exact Nat.ne_of_lt (Nat.lt_succ_of_lt c0) z
      · exact Nat.ne_of_lt c0 (List.mem_singleton.mp z)
    · have := f2 (List.length_pos_iff.mpr e)
      rw [z1] at this
      exact Nat.le_of_lt (Nat.lt_of_succ_lt this)
end
/-- lists in a list -/
def rSumL (X : Cx) : List V → Hp → VK → Prop := fun vs H Q => ∃ a b ws xs, vs = [.ref a, .ref b] ∧ SqL X.K H a ws ∧ H b = some (.lst []) ∧ PySem.W.EachIs (fun v ys => ∃ c, v = V.ref c ∧ H c = some (.lst ys)) ws xs ∧ xs.flatten.length ≤ sizeLine ∧
  (xs = [] → Q (.ref b) H) ∧ (xs ≠ [] → ∀ p, H p = none → Q (.ref p) (upd H p (.lst xs.flatten)))
theorem lists_at {X : Cx} {pins : List (Addr × Obj)} {σ : L2.St} {H : Hp} {s : Shared} (I : L2.Inv X pins σ H s) : ∀ {ws : List V} {xs : List (List V)} {us : List Value}, PySem.W.EachIs (fun v ys => ∃ c, v = V.ref c ∧ H c = some (.lst ys)) ws xs → Vals ws us →
    ∃ qs : List (Addr × List Value), us = qs.map (fun q => Value.ref q.1) ∧ Vals xs.flatten (qs.flatMap (·.2)) ∧ (xs = [] ↔ qs = []) ∧ ∀ q ∈ qs, ∃ m, s.heap.get? q.1 = some (lob q.2 m)
  | _, _, _, .nil, .nil => ⟨[], rfl, .nil, by simp, by simp⟩
  | _, _, _, .cons ⟨c, e1, e2⟩ h, .cons r1 r2 => by
    subst e1
    cases r1
    obtain ⟨qs, f1, f2, f3, f4⟩ := lists_at I h r2
    obtain ⟨z, its, n, r, hl, e⟩ := I.lstM e2
    refine ⟨(c, its) :: qs, by rw [f1]; rfl, ?_, by simp, fun q hq => ?_⟩
    · rw [List.flatten_cons, List.flatMap_cons]
      exact r.append f2
    · rcases List.mem_cons.mp hq with rfl | hq
      · exact ⟨n, e⟩
      · exact f4 q hq
theorem cr_sumL {X : Cx} (hc : X.calm = true) : CallR X (.builtin "sum") (rSumL X) := by
  intro pins s σ H vs us Q I r h
  obtain ⟨a, b, ws, xs, rfl, ha, hb, each, few, q0, q1⟩ := h
  obtain ⟨u1, u2, rfl, r1, r2⟩ := r.two
  cases r1
  cases r2
  obtain ⟨its, rv, pl, hz⟩ := I.list ha
  obtain ⟨qs, rfl, f2, f3, f4⟩ := lists_at I each rv
  obtain ⟨z, its2, n, rr, hl, e⟩ := I.lstM hb
  cases rr
  refine call_sumL (xs := qs) (I.ok.hd hc) pl.isList e f4 (by rw [← f2.length]; exact few) fun h' tk p m k p0 p1 hp => ?_
  by_cases e0 : xs = []
  · obtain rfl := p0 (f3.mp e0)
    exact ⟨.ref p, H, I.kept k, rfl, q0 e0⟩
  · have hp' := p1 fun z => e0 (f3.mpr z)
    exact ⟨.ref p, _, I.laid (t' := tk) k hp' (show ObjOk X.prog X.w _ _ _ (.lst xs.flatten) from ⟨few, _, m, f2, hp⟩), rfl, q1 e0 p (I.hok.fresh hp')⟩
theorem listsV_of {w : World} {K : PySem.W.Frag} {ρ : List Addr} {B : Addr → Prop} {H : Hp} {o : Bool} : ∀ {vs : List V} {ts xs : List T} {A : List Addr}, Rs w K ρ B H o vs ts A → listsOf ts = some xs →
    ∃ yss A', PySem.W.EachIs (fun v ys => ∃ c, v = V.ref c ∧ H c = some (.lst ys)) vs yss ∧ Rs w K ρ B H o yss.flatten xs A' ∧ A'.Sublist A
  | _, _, _, _, .nil, e => by
    cases e
    exact ⟨[], [], .nil, .nil, by simp⟩
  | _, _, _, _, .cons (t := t) (ts := ts) h1 h2, e => by
    cases t with
    | lst ys =>
      obtain ⟨zs, e1, e2⟩ := Option.map_eq_some_iff.mp (show (listsOf ts).map (ys ++ ·) = some _ from e)
      subst e2
      obtain ⟨yss, A', g1, g2, g3⟩ := listsV_of h2 e1
      cases h1 with
      | lst0 k1 k2 k3 => exact ⟨_ :: yss, _, .cons ⟨_, rfl, k2⟩ g1, k3.app g2, (List.Sublist.refl _).append g3⟩
      | lst2 k1 k2 => exact ⟨_ :: yss, _, .cons ⟨_, rfl, k1⟩ g1, k2.app g2, (List.sublist_cons_self _ _).append g3⟩
    | _ => cases e
theorem se_sumL {es : Es} (hes : SEs D F es) : SE D F (.bi .sumL es) := by
  intro X G e σ ρ B H g g' env t fl S hc he
  obtain ⟨rs, ea, hf⟩ := evalBi he
  unfold chkE at hc
  split at hc
  · rename_i x p es' pos
    obtain ⟨h1, h2⟩ := band hc
    simp only [biName] at h2
    split at h2
    · rename_i a' q _
      obtain ⟨h2, h3⟩ := band h2
      have ex := of_decide_eq_true h2
      subst ex
      have oks := chkEs_ok h3
      refine wE.of (pe_callB (cr_sumL G.calm) (gl_of h1) (G.blt _ (by decide)) PyProof.Rows.boot_sum (wA.pa X _) (by decide) (by decide) (starEach_ok (oks a' (by simp))) (noStar fun x hx => oks x (by simp [List.mem_singleton.mp hx]))) ?_
      refine (((hes X G _ σ ρ B H g g' env rs S h3 ea).mono fun vs H' q (z : Fit X.K H') => ?_)).fits
      replace hf : biSumL rs = some (t, fl) := hf
      unfold biSumL at hf
      split at hf
      · rename_i ts f
        obtain ⟨xs, e1, hf⟩ := Option.bind_eq_some_iff.mp hf
        split at hf
        · rename_i few
          cases hf
          obtain ⟨r, A, kp, hr, cl, h, hA⟩ := id q
          have hl := h.length
          match vs, hl with
          | [v, u], _ =>
            obtain ⟨A1, A2, hA12, f1, f2⟩ := h.inv2
            obtain ⟨b, vs0, A2', rfl, hb, hA2, n0⟩ := f2.lst2
            cases n0
            have nbb : ¬ (B b ∨ b ∈ r) := fun zz => f2.nb b (by rw [hA2]; simp) (.inl zz)
            have frb : H b = none := hA b (by rw [hA12, hA2]; simp)
            have key : ∃ a ws yss A', v = .ref a ∧ H' a = some (.lst ws) ∧ PySem.W.EachIs (fun v ys => ∃ c, v = V.ref c ∧ H' c = some (.lst ys)) ws yss ∧
                ((f = 2 ∧ A'.Sublist A ∧ Rs X.w X.K (ρ ++ r) (fun a => B a ∨ a ∈ r) H' true yss.flatten xs A') ∨ (f ≠ 2 ∧ Rs X.w X.K (ρ ++ r) (fun a => B a ∨ a ∈ r) H' false yss.flatten xs [])) := by
              by_cases hf2 : f = 2
              · subst hf2
                obtain ⟨a, ws, A1', rfl, ha, hA1, r1⟩ := f1.lst2
                obtain ⟨yss, A', g1, g2, g3⟩ := listsV_of r1 e1
                refine ⟨a, ws, yss, A', rfl, ha, g1, .inl ⟨rfl, ?_, g2.weak fun a zz => .inl zz⟩⟩
                rw [hA12, hA1]
                exact g3.trans ((List.sublist_cons_self _ _).trans (List.sublist_append_left _ _))
              · obtain ⟨a, ws, rfl, _, ha, r1⟩ := f1.sh.lst_inv
                obtain ⟨yss, A', g1, g2, g3⟩ := listsV_of r1 e1
                have := g2.nil0
                subst this
                exact ⟨a, ws, yss, [], rfl, ha, g1, .inr ⟨hf2, g2.weak fun a zz => .inl zz⟩⟩
            obtain ⟨a, ws, yss, A', rfl, ha, g1, g2⟩ := key
            have hlen : yss.flatten.length = xs.length := by
              rcases g2 with ⟨_, _, g2⟩ | ⟨_, g2⟩
              · exact g2.length
              · exact g2.length
            refine ⟨a, b, ws, yss, rfl, SqL.of ha, hb, g1, by rw [hlen]; exact few, fun e0 => ?_, fun _ p np => ?_⟩
            · subst e0
              have ex : xs = [] := by
                cases xs with
                | nil => rfl
                | cons _ _ => simp at hlen
              subst ex
              by_cases hf2 : f = 2
              · rw [if_pos hf2]
                exact ⟨r, [b], kp, hr, cl, .inr (.inr ⟨rfl, .lst2 hb .nil, by simp, fun c hc => by rw [List.mem_singleton.mp hc]; exact nbb⟩), fun c hc => by rw [List.mem_singleton.mp hc]; exact frb⟩
              · rw [if_neg hf2]
                exact ⟨r, [b], kp, hr, cl, .inr (.inl ⟨rfl, b, rfl, rfl, nbb, .lst hb .nil⟩), fun c hc => by rw [List.mem_singleton.mp hc]; exact frb⟩
            · refine post_lstH S kp hr cl h hA np ?_
              rcases g2 with ⟨hf2, g3, g2⟩ | ⟨hf2, g2⟩
              · exact .inl ⟨if_pos hf2, A', g3, g2⟩
              · exact .inr ⟨if_neg hf2, g2⟩
        · cases hf
      · cases hf
    all_goals (first | (rename_i hq; cases hq; done) | cases h2)
  · rename_i o x apos pos
    split at hc
    · rename_i hq
      cases hq
    · cases hc
  · cases hc
end Fx
end

section
set_option Elab.async false
set_option linter.all false
set_option maxRecDepth 100000
/-! Fx25: soundness of all expressions. -/
namespace Fx
open PySem PySem.Spec PyProof.Rows L2
variable {D : Dec} {F : Call}

theorem st_ite {c a b : E} (hc : STt D F c) (ha : STt D F a) (hb : STt D F b) : STt D F (.ite c a b) := by
  intro X G e σ ρ B H g g' env t fl bb S hch he ht
  unfold chkE at hch
  split at hch
  · rename_i c' a' b' pos
    obtain ⟨c12, cb⟩ := band hch
    obtain ⟨cc, ca⟩ := band c12
    unfold evalE at he
    obtain ⟨x, g1, ec, he⟩ := Out.bind_eq he
    have run : ∀ (tt : Bool), x.1.truth = some tt → (∀ ρ' B' H1, Sit X.w X.K ρ' B' H1 g1 env σ → wT X (if tt = true then a' else b') σ H1 fun d H' => d = bb ∧ Base X.w X.K ρ' H1 g' H') → wT X (.IfExp c' a' b' pos) σ H fun d H' => d = bb ∧ Base X.w X.K ρ H g' H' := by
      intro tt e1 k pins s I
      rw [PySem.arm_isTrue_IfExp]
      refine wpAny_bind (thn (hc X G c' σ ρ B H g g1 env x.1 x.2 tt S cc ec e1 pins s I) fun d s1 ⟨H1, I1, q1⟩ => ?_)
      obtain ⟨rfl, r, kp, hr, c1⟩ := q1
      have q := (k _ _ H1 (Base.sit S kp hr c1)).mono fun d H' q2 => (⟨q2.1, Base.on (A := []) (B := B) S kp hr c1 (by simp) (by simp) q2.2⟩ : d = bb ∧ Base X.w X.K ρ H g' H')
      cases d with
      | true => exact q pins s1 I1
      | false => exact q pins s1 I1
    split at he
    · rename_i e1
      exact run true e1 fun ρ' B' H1 S' => ha X G a' σ _ _ H1 g1 g' env t fl bb S' ca he ht
    · rename_i e1
      exact run false e1 fun ρ' B' H1 S' => hb X G b' σ _ _ H1 g1 g' env t fl bb S' cb he ht
    · cases he
  · cases hch
theorem se_con {c : Nat} : SE D F (.con c) := by
  intro X G e σ ρ B H g g' env t fl S hc he
  unfold evalE at he
  cases he
mutual
theorem soundE : ∀ c : E, SE D F c ∧ STt D F c
  | .lit t => ⟨se_lit, st_gen se_lit rfl⟩
  | .con c => ⟨se_con, st_gen se_con rfl⟩
  | .var i => ⟨se_var, st_gen se_var rfl⟩
  | .tup es => ⟨se_tup (soundEs es).1, st_gen (se_tup (soundEs es).1) rfl⟩
  | .lst es => ⟨se_lst (soundEs es).1, st_gen (se_lst (soundEs es).1) rfl⟩
  | .bin o a b => ⟨se_bin (soundE a).1 (soundE b).1, st_gen (se_bin (soundE a).1 (soundE b).1) rfl⟩
  | .neg a => ⟨se_neg (soundE a).1, st_gen (se_neg (soundE a).1) rfl⟩
  | .not a => ⟨se_not (soundE a).1, st_not (soundE a).2⟩
  | .and a b => ⟨se_and (soundE a).1 (soundE b).1, st_and (soundE a).2 (soundE b).2 fun _ _ _ _ _ _ => trivial⟩
  | .or a b => ⟨se_or (soundE a).1 (soundE b).1, st_or (soundE a).2 (soundE b).2⟩
  | .cmp o a b => ⟨se_cmp (soundE a).1 (soundE b).1, st_cmp (soundE a).1 (soundE b).1⟩
  | .chain o o' a b c => ⟨se_chain (soundE a).1 (soundE b).1 (soundE c).1, st_chain (soundE a).1 (soundE b).1 (soundE c).1⟩
  | .ite c a b => ⟨se_ite (soundE c).2 (soundE a).1 (soundE b).1, st_ite (soundE c).2 (soundE a).2 (soundE b).2⟩
  | .idx a i => ⟨se_idx (soundE a).1 (soundE i).1, st_gen (se_idx (soundE a).1 (soundE i).1) rfl⟩
  | .slc a lo hi => ⟨se_slc (soundE a).1 (soundE lo).1 (soundE hi).1, st_gen (se_slc (soundE a).1 (soundE lo).1 (soundE hi).1) rfl⟩
  | .rev a => ⟨se_rev (soundE a).1, st_gen (se_rev (soundE a).1) rfl⟩
  | .call f es => ⟨se_call (soundEs es).1, st_gen (se_call (soundEs es).1) rfl⟩
  | .callK f pm j es => ⟨se_callK (soundEs es).2, st_gen (se_callK (soundEs es).2) rfl⟩
  | .bi b es => by
    have h : SE D F (.bi b es) := by
      cases b with
      | len => exact se_len (soundEs es).1
      | lis => exact se_lis (soundEs es).1
      | sumI => exact se_sumI (soundEs es).1
      | sumL => exact se_sumL (soundEs es).1
      | int1 => exact se_int1 (soundEs es).1
      | max2 => exact se_max2 (soundEs es).1
      | repr => exact se_repr (soundEs es).1
      | sorted => exact se_sorted (soundEs es).1
      | sortSet => exact se_sortSet (soundEs es).1
      | lenSet => exact se_lenSet (soundEs es).1
      | bits =>
        refine se_bits (soundEs es).1 fun a e => ?_
        subst e
        exact (soundE a).1
    exact ⟨h, st_gen h rfl⟩
  | .isi a tys => ⟨se_isi (soundE a).1, st_gen (se_isi (soundE a).1) rfl⟩
  | .comp elt own tg it cond => ⟨se_comp (soundIt it) (soundE cond).2 (soundE elt).1, st_gen (se_comp (soundIt it) (soundE cond).2 (soundE elt).1) rfl⟩
  | .meth m a es => ⟨se_meth (soundE a).1 (soundEs es).1, st_gen (se_meth (soundE a).1 (soundEs es).1) rfl⟩
  | .dic0 n => ⟨se_dic0, st_gen se_dic0 rfl⟩
  | .lrng1 a => ⟨se_lrng1 (soundE a).1, st_gen (se_lrng1 (soundE a).1) rfl⟩
theorem soundEs : ∀ c : Es, SEs D F c ∧ SEK D F c
  | .nil => ⟨ses_nil, sek_nil⟩
  | .cons e es => ⟨ses_cons (soundE e).1 (soundEs es).1, sek_cons (soundE e).1 (soundEs es).2⟩
theorem soundIt : ∀ c : It, SI D F c
  | .seq e => si_seq (soundE e).1
  | .rng1 e => si_rng1 (soundE e).1
  | .rng2 a b => si_rng2 (soundE a).1 (soundE b).1
  | .enum e => si_enum (soundE e).1
  | .zip a b => si_zip (soundE a).1 (soundE b).1
end
end Fx
end

section
set_option Elab.async false
set_option linter.all false
set_option maxRecDepth 100000
/-! Fx26: statements, their evaluator, their checker. -/
namespace Fx
open PySem PySem.Spec PyProof.Rows L2

abbrev VEnv := List (Option (T × Nat))
/-- the names ns alone, as values -/
def only (ns : List Nat) : Nat → VEnv → Env
  | _, [] => []
  | k, x :: r => (if ns.contains k then x.map (·.1) else none) :: only ns (k + 1) r
def demote (ns : List Nat) : Nat → VEnv → VEnv
  | _, [] => []
  | k, x :: r => (if ns.contains k then x.map (fun p => (p.1, 0)) else x) :: demote ns (k + 1) r
/-- behind a result: who may share with it owns no more -/
def after (ns : List Nat) (fl : Nat) (env : VEnv) : VEnv := if fl = 2 then env else demote ns 0 env
def norm (r : T × Nat) : T × Nat := if r.1.flat then (r.1, 2) else r
inductive Fl where
  | nx (env : VEnv) | rt (r : T × Nat) | bk (env : VEnv) | ct (env : VEnv)

mutual
inductive S where
  | set (i : Nat) (ns : List Nat) (e : E)
  | unp (is : List Nat) (ns : List Nat) (e : E)
  | par (is : List Nat) (ns : List Nat) (es : Es)
  | seti (i : Nat) (ns nk : List Nat) (k e : E)
  | app (i : Nat) (ns : List Nat) (e : E)
  | pop (j i : Nat)
  | cel (i : Nat) (ns : List Nat) (e : E)
  | appE (ns : List Nat) (e c : E)
  | appV (i : Nat) (path : List Nat) (c : E)
  | exp (ns : List Nat) (e : E)
  | ret (ns : List Nat) (e : E)
  | retV (i : Nat)
  | retT (i : Nat) (ns : List Nat) (es : Es)
  | rai
  | pas
  | brk
  | cnt
  | ifs (ns : List Nat) (c : E) (a b : Ss)
  | for_ (tg : Tg) (ns : List Nat) (it : It) (b : Ss)
  | whl (ns : List Nat) (c : E) (b : Ss)
inductive Ss where
  | nil | cons (s : S) (r : Ss)
end

/-- one turn of a loop, handed on -/
def forL (ts : List T) (body : T → VEnv → List T → Out Fl) (env : VEnv) (g : List T) : Out Fl := match ts with
  | [] => .ok (.nx env) g
  | t :: r => (body t env g).bind fun f g => match f with
    | .nx env => forL r body env g
    | .ct env => forL r body env g
    | .bk env => .ok (.nx env) g
    | .rt x => .ok (.rt x) g
def whlL (n : Nat) (test : VEnv → List T → Out (Bool × VEnv)) (body : VEnv → List T → Out Fl) (env : VEnv) (g : List T) : Out Fl := match n with
  | 0 => .bad
  | n + 1 => (test env g).bind fun b g => if b.1 then (body b.2 g).bind fun f g => (match f with
    | .nx env => whlL n test body env g
    | .ct env => whlL n test body env g
    | .bk env => .ok (.nx env) g
    | .rt x => .ok (.rt x) g) else .ok (.nx b.2) g
def putAll : List (Nat × (T × Nat)) → VEnv → VEnv
  | [], env => env
  | p :: r, env => putAll r (env.set p.1 (some (norm p.2)))
def minFl (rs : List (T × Nat)) : Nat := if rs.all (fun r => (norm r).2 == 2) then 2 else 0
def bindV (tg : Tg) (t : T) (env : VEnv) : Option VEnv := match tg with
  | .one i => some (env.set i (some (norm (t, 0))))
  | .many is => (match t with
    | .tup ts => if ts.length = is.length then some (putAll (is.zip (ts.map fun t => (t, 0))) env) else none
    | _ => none)
/-- the place of an index in a list -/
def ixL (n : Nat) (i : Int) : Option Nat := if 0 ≤ i ∧ i < n then some i.toNat else if i < 0 ∧ 0 ≤ i + n then some (i + n).toNat else none
def setiV (env : VEnv) (i : Nat) (k : T) (r : T × Nat) (g : List T) : Out Fl := match env.getD i none with
  | some (.cell n, _) => (match g[n]?, k with
    | some (.lst ts), .int j => (match ixL ts.length j with
      | some m => if r.1.flat && r.1.plain then .ok (.nx env) (g.set n (.lst (ts.set m r.1))) else .bad
      | none => .bad)
    | _, _ => .bad)
  | some (.dic b ks vs, 1) => if keyOk b k && decide (ks.length < 1000000) then .ok (.nx (env.set i (some (.dic b (putT ks vs k r.1).1 (putT ks vs k r.1).2, 1)))) g else .bad
  | _ => .bad
def walkT (t : T) : List Nat → Option T
  | [] => some t
  | i :: r => (match t with
    | .lst ts => ts[i]?.bind fun u => walkT u r
    | .tup ts => ts[i]?.bind fun u => walkT u r
    | _ => none)
def isLstT : T → Bool
  | .lst ts => decide (ts.length < 1000000)
  | _ => false

mutual
def evalS (F : Call) (W : Nat) : S → VEnv → List T → Out Fl
  | .set i ns e, env, g => (evalE F (only ns 0 env) e g).bind fun r g => .ok (.nx ((after ns (norm r).2 env).set i (some (norm r)))) g
  | .unp is ns e, env, g => (evalE F (only ns 0 env) e g).bind fun r g => Out.of g ((bindV (.many is) r.1 (after ns (norm r).2 env)).map .nx)
  | .par is ns es, env, g => (evalEs F (only ns 0 env) es g).bind fun rs g => if rs.length = is.length then .ok (.nx (putAll (is.zip rs) (after ns (minFl rs) env))) g else .bad
  | .seti i ns nk k e, env, g => (evalE F (only ns 0 env) e g).bind fun r g => (evalE F (only nk 0 env) k g).bind fun k g => setiV (after ns (norm r).2 env) i k.1 r g
  | .app i ns e, env, g => (evalE F (only ns 0 env) e g).bind fun r g => (match (after ns (norm r).2 env).getD i none with
    | some (.lst ts, f) => if f = 0 ∨ 1000000 ≤ ts.length then .bad else .ok (.nx ((after ns (norm r).2 env).set i (some (.lst (ts ++ [r.1]), fl2 f (norm r).2)))) g
    | _ => .bad)
  | .pop j i, env, g => (match env.getD i none with
    | some (.lst ts, f) => if f = 0 then .bad else (match ts.getLast? with
      | some t => .ok (.nx ((env.set i (some (.lst ts.dropLast, 1))).set j (some (norm (t, 0))))) g
      | none => .bad)
    | _ => .bad)
  | .cel i ns e, env, g => (evalE F (only ns 0 env) e g).bind fun r g => (match r with
    | (.lst ts, f) => if f = 0 ∨ T.flats ts = false ∨ T.plains ts = false then .bad else .ok (.nx ((after ns f env).set i (some (.cell g.length, 0)))) (g ++ [.lst ts])
    | _ => .bad)
  | .appE ns e c, env, g => (evalE F (only ns 0 env) e g).bind fun r g => (evalE F [] c g).bind fun _ g => if isLstT r.1 && r.2 != 0 then .ok (.nx env) g else .bad
  | .appV i path c, env, g => (match env.getD i none with
    | some (t, f) => (evalE F [] c g).bind fun _ g => if f = 2 then (match walkT t path with
      | some u => if isLstT u then .ok (.nx (env.set i none)) g else .bad
      | none => .bad) else .bad
    | none => .bad)
  | .exp ns e, env, g => (evalE F (only ns 0 env) e g).bind fun _ g => .ok (.nx env) g
  | .ret ns e, env, g => (evalE F (only ns 0 env) e g).bind fun r g => .ok (.rt r) g
  | .retV i, env, g => (match env.getD i none with
    | some r => .ok (.rt r) g
    | none => .bad)
  | .retT i ns es, env, g => (match env.getD i none with
    | some (t, f) => if ns.contains i then .bad else (evalEs F (only ns 0 env) es g).bind fun rs g => .ok (.rt (.tup (t :: rs.map (·.1)), if f = 2 ∧ allFl rs then 2 else 0)) g
    | none => .bad)
  | .rai, _, _ => .bad
  | .pas, env, g => .ok (.nx env) g
  | .brk, env, g => .ok (.bk env) g
  | .cnt, env, g => .ok (.ct env) g
  | .ifs ns c a b, env, g => (evalE F (only ns 0 env) c g).bind fun x g => (match x.1.truth with
    | some true => evalSs F W a env g
    | some false => evalSs F W b env g
    | none => .bad)
  | .for_ tg ns it b, env, g => (evalIt F (only ns 0 env) it g).bind fun ts g => forL ts (fun t env g => match bindV tg t env with
    | some env => evalSs F W b env g
    | none => .bad) (demote ns 0 env) g
  | .whl ns c b, env, g => whlL W (fun env g => (evalE F (only ns 0 env) c g).bind fun x g => Out.of g (x.1.truth.map fun t => (t, env))) (fun env g => evalSs F W b env g) env g
def evalSs (F : Call) (W : Nat) : Ss → VEnv → List T → Out Fl
  | .nil, env, g => .ok (.nx env) g
  | .cons s r, env, g => (evalS F W s env g).bind fun f g => (match f with
    | .nx env => evalSs F W r env g
    | f => .ok f g)
end
structure Fn where
  np : Nat
  nl : Nat
  body : Ss
def evalF (P : List Fn) (W : Nat) : Nat → Call
  | 0 => fun _ _ _ => .bad
  | k + 1 => fun f ts g => match P[f]? with
    | some d => if ts.length = d.np ∧ d.np ≤ d.nl then (evalSs (evalF P W k) W d.body (ts.map (fun t => some (t, 0)) ++ List.replicate (d.nl - d.np) none) g).bind fun f g => (match f with
      | .rt r => .ok (norm r) g
      | .nx _ => .ok (.non, 2) g
      | _ => .bad) else .bad
    | none => .bad

/-! ### the checker -/
def isLC : Expr → Bool
  | .ListComp .. => true
  | _ => false
/-- a pair of targets that is stored in its own order -/
def noSwap (sc : Scope) (tg e : Expr) : Bool := match e, tg with
  | .Tuple .., .Tuple ts _ _ => ts.any fun t => match t with
    | .Name x _ => !(sc.names.lookup x == some .local)
    | _ => false
  | _, _ => true
def parOk (sc : Scope) (ts vs : List Expr) : Bool := (decide (ts.length = 2) || decide (ts.length = 3)) && !(vs.all (foldedForSure 8)) && !(vs.all (constantsAlone 8)) && (ts.all fun t => match t with
    | .Name x p => decide (sc.names.lookup x = some .local) && p.line == (ts.head?.map (·.pos.line)).getD 0
    | _ => false)
def isSubN : List Nat → Expr → Expr → Bool
  | [], o, v => (match o, v with
    | .Name x _, .Name y _ => decide (x = y)
    | _, _ => false)
  | i :: r, o, v => (match o with
    | .Subscript o' k _ => isLitInt (i : Int) k && isSubN r o' v
    | _ => false)
mutual
def chkS (D : Dec) (N : List Str) (sc : Scope) : S → Stmt → Bool
  | .set i _ e, st => (match st with
    | .Assign [tg] e' _ => chkTg N sc (fun _ => true) (.one i) tg && chkE D N sc e e'
    | _ => false)
  | .unp is _ e, st => (match st with
    | .Assign [tg] e' _ => chkTg N sc (fun _ => true) (.many is) tg && chkE D N sc e e' && noSwap sc tg e'
    | _ => false)
  | .par is _ es, st => (match st with
    | .Assign [.Tuple ts k p] (.Tuple vs _ _) _ => chkTg N sc (fun _ => true) (.many is) (.Tuple ts k p) && chkEs D N sc es vs && parOk sc ts vs && decide (vs.length = ts.length)
    | _ => false)
  | .seti i _ _ k e, st => (match st with
    | .Assign [.Subscript o k' _] e' _ => chkE D N sc (.var i) o && chkE D N sc k k' && chkE D N sc e e'
    | _ => false)
  | .app i _ e, st => (match st with
    | .Expr (.Call (.Attribute o x apos) [e'] [] pos) _ => decide (x = "append") && chkE D N sc (.var i) o && chkE D N sc e e' && apos.endLine == pos.line
    | _ => false)
  | .pop j i, st => (match st with
    | .Assign [tg] (.Call (.Attribute o x apos) [] [] pos) _ => decide (x = "pop") && chkTg N sc (fun _ => true) (.one j) tg && chkE D N sc (.var i) o && apos.endLine == pos.line
    | _ => false)
  | .cel i _ e, st => (match st with
    | .Assign [tg] e' _ => chkTg N sc (fun _ => true) (.one i) tg && chkE D N sc e e' && !isLC e'
    | _ => false)
  | .appE _ e c, st => (match st with
    | .Expr (.Call (.Attribute o x apos) [c'] [] pos) _ => decide (x = "append") && chkE D N sc e o && okO o && chkE D N sc c c' && apos.endLine == pos.line
    | _ => false)
  | .appV i path c, st => (match st with
    | .Expr (.Call (.Attribute o x apos) [c'] [] pos) _ => decide (x = "append") && okO o && (match N[i]? with
      | some y => isSubN path.reverse o (.Name y pos) && isLocN sc y && okName y
      | none => false) && chkE D N sc c c' && apos.endLine == pos.line
    | _ => false)
  | .exp _ e, st => (match st with
    | .Expr e' _ => chkE D N sc e e' && !isLC e'
    | _ => false)
  | .ret _ e, st => (match st with
    | .Return (some e') _ => chkE D N sc e e'
    | _ => false)
  | .retV i, st => (match st with
    | .Return (some e') _ => chkE D N sc (.var i) e'
    | _ => false)
  | .retT i _ es, st => (match st with
    | .Return (some (.Tuple (o :: vs) _ _)) _ => chkE D N sc (.var i) o && chkEs D N sc es vs && decide (vs.length < 1000)
    | _ => false)
  | .rai, st => (match st with
    | .Raise .. => true
    | _ => false)
  | .pas, st => (match st with
    | .Pass _ => true
    | _ => false)
  | .brk, st => (match st with
    | .Break _ => true
    | _ => false)
  | .cnt, st => (match st with
    | .Continue _ => true
    | _ => false)
  | .ifs _ c a b, st => (match st with
    | .If c' a' b' _ => chkE D N sc c c' && chkSs D N sc a a' && chkSs D N sc b b'
    | _ => false)
  | .for_ tg _ it b, st => (match st with
    | .For tg' it' b' [] _ => chkTg N sc (fun _ => true) tg tg' && itTg it tg' && chkIt D N sc it it' && chkSs D N sc b b'
    | _ => false)
  | .whl _ c b, st => (match st with
    | .While c' b' [] _ => chkE D N sc c c' && chkSs D N sc b b'
    | _ => false)
def chkSs (D : Dec) (N : List Str) (sc : Scope) : Ss → List Stmt → Bool
  | .nil, sts => (match sts with
    | [] => true
    | _ => false)
  | .cons s r, sts => (match sts with
    | st :: q => chkS D N sc s st && chkSs D N sc r q
    | [] => false)
end
end Fx
end

section
set_option Elab.async false
set_option linter.all false
set_option maxRecDepth 100000
/-! Fx27: where a body stands between its statements. -/
namespace Fx
open PySem PySem.Spec PyProof.Rows L2

theorem only_at {ns : List Nat} : ∀ {env : VEnv} {k i : Nat}, (only ns k env).getD i none = if ns.contains (k + i) then (env.getD i none).map (·.1) else none
  | [], k, i => by simp [only]
  | x :: r, k, i => by
    cases i with
    | zero => simp [only]
    | succ i =>
      have ih := only_at (ns := ns) (env := r) (k := k + 1) (i := i)
      rw [show k + 1 + i = k + (i + 1) by omega] at ih
      simpa [only] using ih
theorem demote_at {ns : List Nat} : ∀ {env : VEnv} {k i : Nat}, (demote ns k env).getD i none = if ns.contains (k + i) then (env.getD i none).map (fun p => (p.1, 0)) else env.getD i none
  | [], k, i => by simp [demote]
  | x :: r, k, i => by
    cases i with
    | zero => simp [demote]
    | succ i =>
      have ih := demote_at (ns := ns) (env := r) (k := k + 1) (i := i)
      rw [show k + 1 + i = k + (i + 1) by omega] at ih
      simpa [demote] using ih
theorem demote_len {ns : List Nat} : ∀ {env : VEnv} {k : Nat}, (demote ns k env).length = env.length
  | [], k => rfl
  | x :: r, k => by simp [demote, demote_len (env := r)]

section
variable {w : World} {K : PySem.W.Frag} {ρ ρ' : List Addr} {B B' : Addr → Prop} {H H' : Hp}
mutual
/-- what is owned whole asks nothing of others -/
theorem R.ownAny : ∀ {v : V} {t : T} {A : List Addr}, R w K ρ B H true v t A → R w K ρ B' H true v t A
  | _, _, _, .non => .non
  | _, _, _, .bl b => .bl b
  | _, _, _, .int i => .int i
  | _, _, _, .str s h => .str s h
  | _, _, _, .tup h1 h2 => .tup h1 (Rs.ownAny h2)
  | _, _, _, .lst2 h1 h2 => .lst2 h1 (Rs.ownAny h2)
  | _, _, _, .cell h1 => .cell h1
theorem Rs.ownAny : ∀ {vs : List V} {ts : List T} {A : List Addr}, Rs w K ρ B H true vs ts A → Rs w K ρ B' H true vs ts A
  | _, _, _, .nil => .nil
  | _, _, _, .cons h1 h2 => .cons (R.ownAny h1) (Rs.ownAny h2)
end
theorem norm_t (r : T × Nat) : (norm r).1 = r.1 := by
  unfold norm
  split <;> rfl
theorem RF.normed {v : V} {r : T × Nat} {A : List Addr} (h : RF w K ρ B H v r.1 r.2 A) : ∃ A', RF w K ρ B H v (norm r).1 (norm r).2 A' ∧ A'.Sublist A := by
  unfold norm
  split
  · rename_i f
    exact ⟨[], (h.flat f (B' := B)).1.rf (.inl ⟨rfl, rfl⟩), by simp⟩
  · exact ⟨A, h, .refl _⟩
theorem RFs.normed : ∀ {B : Addr → Prop} {vs : List V} {rs : List (T × Nat)} {A : List Addr}, RFs w K ρ H B vs rs A → ∃ A', RFs w K ρ H B vs (rs.map norm) A' ∧ A'.Sublist A
  | _, _, _, _, .nil => ⟨[], .nil, .refl _⟩
  | _, _, _, _, .cons h1 h2 => by
    obtain ⟨A1, k1, s1⟩ := h1.normed
    obtain ⟨A2, k2, s2⟩ := h2.normed
    exact ⟨A1 ++ A2, .cons (k1.weakB fun a z => z.imp id fun z => s2.subset z) (k2.weak fun a z => z.imp id fun z => s1.subset z), s1.append s2⟩
def all2 (rs : List (T × Nat)) : Bool := rs.all fun r => r.2 == 2
theorem RFs.rebase : ∀ {B B' : Addr → Prop} {vs : List V} {rs : List (T × Nat)} {A : List Addr}, RFs w K ρ H B vs rs A → all2 rs = true → (∀ a ∈ A, ¬ B' a) → RFs w K ρ H B' vs rs A
  | _, _, _, _, _, .nil, _, _ => .nil
  | B, B', _, _, _, .cons (A := A1) (A' := A2) h1 h2, f, hA => by
    have f' : ((_ : T × Nat).2 == 2 && all2 _) = true := f
    obtain ⟨f1, f2⟩ := band f'
    have e := eq_of_beq f1
    refine .cons ?_ (h2.rebase f2 fun a ha z => ?_)
    · have nb := h1.nb
      rw [e] at h1 ⊢
      exact .inr (.inr ⟨rfl, h1.own2.ownAny, h1.nodup, fun a ha z => by
        rcases z with z | z
        · exact hA a (List.mem_append.mpr (.inl ha)) z
        · exact nb a ha (.inr z)⟩)
    · rcases z with z | z
      · exact hA a (List.mem_append.mpr (.inr ha)) z
      · exact h2.nb a ha (.inr z)
/-- where a body stands: E is owned by results under way -/
structure SR (w : World) (K : PySem.W.Frag) (B : Addr → Prop) (ρ : List Addr) (H : Hp) (g : List T) (env : VEnv) (σ : L2.St) (own : Nat → List Addr) (E : List Addr) : Prop where
  cells : Cells w K ρ H g
  badT : ∀ a, B a → H a ≠ none
  len : env.length = σ.length
  each : ∀ (i : Nat) (t : T) (f : Nat), env.getD i none = some (t, f) → ∃ v, σ[i]? = some (some v) ∧ RF w K ρ (fun a => (B a ∨ a ∈ ρ) ∨ (∃ j, j ≠ i ∧ a ∈ own j) ∨ a ∈ E) H v t f (own i)
  non : ∀ i, env.getD i none = none → own i = []
  ext : ∀ a ∈ E, H a ≠ none ∧ ¬ (B a ∨ a ∈ ρ)
/-- from one place to a later one -/
structure Step (ρ : List Addr) (own : Nat → List Addr) (H : Hp) (ρ' : List Addr) (own' : Nat → List Addr) (E' : List Addr) (H' : Hp) : Prop where
  keep : ∀ a o, H a = some o → a ∉ ρ → (∀ j, a ∉ own j) → H' a = some o
  tups : ∀ a xs, H a = some (.tup xs) → H' a = some (.tup xs)
  frzs : ∀ a o u, H a = some (.frz o u) → H' a = some (.frz o u)
  more : ∃ r, ρ' = ρ ++ r ∧ ∀ a ∈ r, H a = none
  owns : ∀ j a, a ∈ own' j → (∃ i, a ∈ own i) ∨ H a = none
  ext : ∀ a ∈ E', (∃ i, a ∈ own i) ∨ H a = none
  live : ∀ a, H a ≠ none → H' a ≠ none
theorem Step.refl {own : Nat → List Addr} : Step ρ own H ρ own [] H :=
  ⟨fun _ _ e _ _ => e, fun _ _ e => e, fun _ _ _ e => e, ⟨[], by simp, by simp⟩, fun j a h => .inl ⟨j, h⟩, by simp, fun _ h => h⟩
theorem Step.trans {own own1 own2 : Nat → List Addr} {ρ1 ρ2 E E2 : List Addr} {H1 H2 : Hp} (a : Step ρ own H ρ1 own1 E H1) (b : Step ρ1 own1 H1 ρ2 own2 E2 H2) : Step ρ own H ρ2 own2 E2 H2 := by
  obtain ⟨r1, rfl, f1⟩ := a.more
  obtain ⟨r2, rfl, f2⟩ := b.more
  have old : ∀ a', H1 a' = none → H a' = none := fun a' e => by
    cases q : H a' with
    | none => rfl
    | some o => exact absurd e (a.live a' (by rw [q]; simp))
  refine ⟨fun x o e n1 n2 => b.keep x o (a.keep x o e n1 n2) (fun z => ?_) fun j z => ?_, fun x xs e => b.tups _ _ (a.tups _ _ e), fun x o u e => b.frzs _ _ _ (a.frzs _ _ _ e), ⟨r1 ++ r2, by simp, fun x hx => ?_⟩, fun j x hx => ?_, fun x hx => ?_, fun x h => b.live x (a.live x h)⟩
  · rcases List.mem_append.mp z with z | z
    · exact n1 z
    · rw [f1 x z] at e; cases e
  · rcases a.owns j x z with ⟨i, z⟩ | z
    · exact n2 i z
    · rw [z] at e; cases e
  · rcases List.mem_append.mp hx with z | z
    · exact f1 x z
    · exact old x (f2 x z)
  · rcases b.owns j x hx with ⟨i, z⟩ | z
    · exact a.owns i x z
    · exact .inr (old x z)
  · rcases b.ext x hx with ⟨i, z⟩ | z
    · exact a.owns i x z
    · exact .inr (old x z)
variable {g g' : List T} {env : VEnv} {σ : L2.St} {own : Nat → List Addr} {E : List Addr} {ns : List Nat}
theorem SR.live (S : SR w K B ρ H g env σ own E) : ∀ j a, a ∈ own j → H a ≠ Option.none ∧ ¬ (B a ∨ a ∈ ρ) := fun j a h => by
  cases e : env.getD j Option.none with
  | none => rw [S.non j e] at h; simp at h
  | some p =>
    obtain ⟨v, _, k⟩ := S.each j p.1 p.2 e
    exact ⟨k.there a h, fun z => k.nb a h (.inl z)⟩
theorem SR.apart (S : SR w K B ρ H g env σ own E) {i j : Nat} {a : Addr} (h : a ∈ own i) (h2 : a ∈ own j) : i = j := by
  cases e : env.getD j Option.none with
  | none => rw [S.non j e] at h2; simp at h2
  | some p =>
    obtain ⟨v, _, k⟩ := S.each j p.1 p.2 e
    by_cases q : i = j
    · exact q
    · exact absurd (.inr (.inl ⟨i, q, h⟩)) (k.nb a h2)
/-- what an expression over ns may rely on -/
abbrev BadN (B : Addr → Prop) (ρ : List Addr) (own : Nat → List Addr) (ns : List Nat) : Addr → Prop := fun a => (B a ∨ a ∈ ρ) ∨ ∃ j, ns.contains j = false ∧ a ∈ own j
theorem SR.sit (S : SR w K B ρ H g env σ own E) (ns : List Nat) : Sit w K ρ (BadN B ρ own ns) H g (only ns 0 env) σ := by
  refine ⟨S.cells, fun a ha => .inl (.inr ha), fun a z => ?_, fun i t e => ?_⟩
  · rcases z with (z | z) | ⟨j, _, z⟩
    · exact S.badT a z
    · obtain ⟨vs, q⟩ := S.cells.live z
      rw [q]; simp
    · exact (S.live j a z).1
  · rw [only_at, Nat.zero_add] at e
    split at e
    · rename_i c
      obtain ⟨p, e1, rfl⟩ := Option.map_eq_some_iff.mp e
      obtain ⟨v, q1, q2⟩ := S.each i p.1 p.2 e1
      refine ⟨v, q1, q2.sh.weak fun a z => ?_⟩
      rcases z with z | ⟨j, cj, z⟩
      · exact .inl z
      · refine .inr (.inl ⟨j, fun e => ?_, z⟩)
        rw [e, c] at cj
        cases cj
    · cases e
/-- who owns behind a result -/
def ownAfter (ns : List Nat) (fl : Nat) (own : Nat → List Addr) : Nat → List Addr := fun j => if fl = 2 then own j else if ns.contains j then [] else own j
theorem own_sub {fl : Nat} {j : Nat} {a : Addr} (h : a ∈ ownAfter ns fl own j) : a ∈ own j := by
  unfold ownAfter at h
  split at h
  · exact h
  · split at h
    · simp at h
    · exact h
theorem after_at {fl i : Nat} : (after ns fl env).getD i none = if fl = 2 then env.getD i none else if ns.contains i then (env.getD i none).map (fun p => (p.1, 0)) else env.getD i none := by
  unfold after
  split
  · rfl
  · rw [demote_at, Nat.zero_add]
theorem after_len {fl : Nat} : (after ns fl env).length = env.length := by
  unfold after
  split
  · rfl
  · exact demote_len
/-- behind results over ns -/
theorem SR.postL (S : SR w K B ρ H g env σ own []) {rs : List (T × Nat)} {vs : List V} (q : PostL w K ρ (BadN B ρ own ns) H rs g' vs H') :
    ∃ ρ' A, Step ρ own H ρ' (ownAfter ns (minFl rs) own) A H' ∧ SR w K B ρ' H' g' (after ns (minFl rs) env) σ (ownAfter ns (minFl rs) own) A ∧
      RFs w K ρ' H' (fun a => (B a ∨ a ∈ ρ') ∨ ∃ j, a ∈ ownAfter ns (minFl rs) own j) vs (rs.map norm) A ∧ ∀ a ∈ A, H a = Option.none := by
  obtain ⟨r, A0, kp, hr, cl, h0, hA0⟩ := q
  obtain ⟨A, h, sub⟩ := h0.normed
  have hA : ∀ a ∈ A, H a = Option.none := fun a ha => hA0 a (sub.subset ha)
  have liveH : ∀ a, H a ≠ Option.none → H' a ≠ Option.none := fun a z => by
    by_cases c : a ∈ ρ
    · obtain ⟨vs, q⟩ := cl.live (List.mem_append.mpr (.inl c))
      rw [q]; simp
    · cases e : H a with
      | none => exact absurd e z
      | some o => rw [kp a o e c]; simp
  have ap := S.cells.apart
  have st : Step ρ own H (ρ ++ r) (ownAfter ns (minFl rs) own) A H' :=
    ⟨fun a o e n _ => kp a o e n, fun a xs e => kp a _ e (ap.tup a xs e), fun a o u e => kp a _ e (ap.frz a o u e), ⟨r, rfl, hr⟩, fun j a h => .inl ⟨j, own_sub h⟩, fun a ha => .inr (hA a ha), liveH⟩
  refine ⟨ρ ++ r, A, st, ⟨cl, fun a z => liveH a (S.badT a z), by rw [after_len]; exact S.len, fun i t f e => ?_, fun i e => ?_, fun a ha => ⟨h.there a ha, fun z => ?_⟩⟩, ?_, hA⟩
  · rw [after_at] at e
    have key : ∀ t f, env.getD i Option.none = some (t, f) → ∃ v, σ[i]? = some (some v) ∧ RF w K (ρ ++ r) (fun a => (B a ∨ a ∈ ρ ++ r) ∨ (∃ j, j ≠ i ∧ a ∈ ownAfter ns (minFl rs) own j) ∨ a ∈ A) H' v t f (own i) := fun t f e => by
      obtain ⟨v, q1, q2⟩ := S.each i t f e
      refine ⟨v, q1, q2.mv (.of kp ap (fun a ha => .inl (.inr ha)) (fun a z => ?_) ⟨r, rfl⟩)⟩
      rcases z with (z | z) | ⟨j, nj, z⟩ | z
      · exact .inl (.inl (.inl z))
      · rcases List.mem_append.mp z with z | z
        · exact .inl (.inl (.inr z))
        · exact .inr (hr a z)
      · exact .inl (.inr (.inl ⟨j, nj, own_sub z⟩))
      · exact .inr (hA a z)
    unfold ownAfter at key ⊢
    split at e
    · rename_i f2
      simp only [f2, if_true] at key ⊢
      exact key t f e
    · rename_i f2
      simp only [f2, if_false] at key ⊢
      split at e
      · rename_i c
        obtain ⟨p, e1, e2⟩ := Option.map_eq_some_iff.mp e
        cases e2
        obtain ⟨v, q1, q2⟩ := key p.1 p.2 e1
        rw [if_pos c]
        exact ⟨v, q1, .inl ⟨rfl, rfl, q2.sh⟩⟩
      · rename_i c
        rw [if_neg c]
        exact key t f e
  · rw [after_at] at e
    unfold ownAfter
    split
    · rename_i f2
      rw [if_pos f2] at e
      exact S.non i e
    · rename_i f2
      rw [if_neg f2] at e
      split
      · rfl
      · rename_i c
        rw [if_neg c] at e
        exact S.non i e
  · have nb := h.nb a ha
    rcases z with z | z
    · exact nb (.inl (.inl (.inl z)))
    · rcases List.mem_append.mp z with z | z
      · exact nb (.inl (.inl (.inr z)))
      · exact nb (.inr z)
  · by_cases f2 : all2 (rs.map norm) = true
    · refine h.rebase f2 fun a ha z => ?_
      have nb := h.nb a ha
      rcases z with (z | z) | ⟨j, z⟩
      · exact nb (.inl (.inl (.inl z)))
      · rcases List.mem_append.mp z with z | z
        · exact nb (.inl (.inl (.inr z)))
        · exact nb (.inr z)
      · exact (S.live j a (own_sub z)).1 (hA a ha)
    · have m0 : minFl rs = 0 := by
        unfold minFl
        rw [if_neg]
        intro z
        apply f2
        unfold all2
        rw [List.all_map]
        exact z
      refine h.weak fun a z => ?_
      rw [m0] at z
      rcases z with (z | z) | ⟨j, z⟩
      · exact .inl (.inl (.inl z))
      · rcases List.mem_append.mp z with z | z
        · exact .inl (.inl (.inr z))
        · exact .inr z
      · unfold ownAfter at z
        rw [if_neg (by decide)] at z
        split at z
        · simp at z
        · rename_i c
          exact .inl (.inr ⟨j, by simpa using c, z⟩)
theorem minFl_one {r : T × Nat} : after ns (minFl [r]) env = after ns (norm r).2 env ∧ ownAfter ns (minFl [r]) own = ownAfter ns (norm r).2 own := by
  have e : (minFl [r] = 2) ↔ ((norm r).2 = 2) := by
    unfold minFl
    simp
  refine ⟨?_, funext fun j => ?_⟩
  · unfold after
    by_cases c : (norm r).2 = 2
    · rw [if_pos (e.mpr c), if_pos c]
    · rw [if_neg (fun z => c (e.mp z)), if_neg c]
  · unfold ownAfter
    by_cases c : (norm r).2 = 2
    · rw [if_pos (e.mpr c), if_pos c]
    · rw [if_neg (fun z => c (e.mp z)), if_neg c]
theorem SR.post (S : SR w K B ρ H g env σ own []) {r : T × Nat} {v : V} (q : Post w K ρ (BadN B ρ own ns) H r.1 r.2 g' v H') :
    ∃ ρ' A, Step ρ own H ρ' (ownAfter ns (norm r).2 own) A H' ∧ SR w K B ρ' H' g' (after ns (norm r).2 env) σ (ownAfter ns (norm r).2 own) A ∧
      RF w K ρ' (fun a => (B a ∨ a ∈ ρ') ∨ ∃ j, a ∈ ownAfter ns (norm r).2 own j) H' v r.1 (norm r).2 A ∧ ∀ a ∈ A, H a = Option.none := by
  obtain ⟨ρ', A, a1, a2, a3, a4⟩ := S.postL (rs := [r]) q.toL
  obtain ⟨e1, e2⟩ := minFl_one (r := r) (ns := ns) (env := env) (own := own)
  rw [e1, e2] at a2
  rw [e2] at a1 a3
  have a5 := a3.inv1
  rw [norm_t] at a5
  exact ⟨ρ', A, a1, a2, a5, a4⟩
end
end Fx
end

section
set_option Elab.async false
set_option linter.all false
set_option maxRecDepth 100000
/-! Fx28: statements: assignments, returns, branches. -/
namespace Fx
open PySem PySem.Spec PyProof.Rows L2
variable {D : Dec} {F : Call} {W : Nat}

/-! ### weakest transformers of statements -/
def wS (X : Cx) (st : Stmt) : TS := fun Dn σ H => ∀ (pins : List (Addr × Obj)) (s : Shared), L2.Inv X pins σ H s → wpAny (model X.prog X.w) X.A (exec st X.env) (SP X pins Dn) X.xe s
def wSs (X : Cx) (st : List Stmt) : TS := fun Dn σ H => ∀ (pins : List (Addr × Obj)) (s : Shared), L2.Inv X pins σ H s → wpAny (model X.prog X.w) X.A (execs st X.env) (SP X pins Dn) X.xe s
theorem wS.ps (X : Cx) (st : Stmt) : PS X st (wS X st) := ⟨fun pins s _ _ _ I h => h pins s I⟩
theorem wSs.pss (X : Cx) (st : List Stmt) : PSs X st (wSs X st) := ⟨fun pins s _ _ _ I h => h pins s I⟩
theorem wS.of {X : Cx} {st : Stmt} {t : TS} {Dn : Ends} {σ : L2.St} {H : Hp} (h : PS X st t) (q : t Dn σ H) : wS X st Dn σ H := fun pins s I => h.run pins s σ H Dn I q
theorem wSs.of {X : Cx} {st : List Stmt} {t : TS} {Dn : Ends} {σ : L2.St} {H : Hp} (h : PSs X st t) (q : t Dn σ H) : wSs X st Dn σ H := fun pins s I => h.run pins s σ H Dn I q
theorem wS.len {X : Cx} {st : Stmt} {Dn : Ends} {σ : L2.St} {H : Hp} (h : σ.length = X.N.length → X.env.scope.kind = .function → wS X st Dn σ H) : wS X st Dn σ H := fun pins s I => h I.len I.ok.kind pins s I

section
variable {w : World} {K : PySem.W.Frag} {ρ ρ' : List Addr} {B B' : Addr → Prop} {H H' : Hp} {g g' : List T} {env : VEnv} {σ : L2.St} {own own' : Nat → List Addr} {E : List Addr}
/-- a result goes into a name -/
theorem SR.store (S : SR w K B ρ H g env σ own E) {A E2 : List Addr} {i : Nat} {v : V} {t : T} {f : Nat} (hE : ∀ a, a ∈ A ∨ a ∈ E2 → a ∈ E) (hi : i < σ.length)
    (h : RF w K ρ (fun a => ((B a ∨ a ∈ ρ) ∨ ∃ j, a ∈ own j) ∨ a ∈ E2) H v t f A) : SR w K B ρ H g (env.set i (some (t, f))) (σ.set i (some v)) (fun j => if j = i then A else own j) E2 := by
  refine ⟨S.cells, S.badT, by simp [S.len], fun j u f' e => ?_, fun j e => ?_, fun a ha => S.ext a (hE a (.inr ha))⟩
  · by_cases c : j = i
    · subst c
      have hl : j < env.length := by rw [S.len]; exact hi
      rw [List.getD_eq_getElem?_getD, List.getElem?_set_self hl] at e
      cases e
      refine ⟨v, List.getElem?_set_self hi, ?_⟩
      rw [if_pos rfl]
      refine h.weakB fun a z => ?_
      rcases z with z | ⟨k, nk, z⟩ | z
      · exact .inl (.inl z)
      · rw [if_neg nk] at z
        exact .inl (.inr ⟨k, z⟩)
      · exact .inr z
    · rw [List.getD_eq_getElem?_getD, List.getElem?_set_ne (Ne.symm c), ← List.getD_eq_getElem?_getD] at e
      obtain ⟨v', q1, q2⟩ := S.each j u f' e
      refine ⟨v', by rw [List.getElem?_set_ne (Ne.symm c)]; exact q1, ?_⟩
      rw [if_neg c]
      refine q2.weakB fun a z => ?_
      rcases z with z | ⟨k, nk, z⟩ | z
      · exact .inl z
      · by_cases d : k = i
        · rw [if_pos d] at z
          exact .inr (.inr (hE a (.inl z)))
        · rw [if_neg d] at z
          exact .inr (.inl ⟨k, nk, z⟩)
      · exact .inr (.inr (hE a (.inr z)))
  · by_cases c : j = i
    · subst c
      have hl : j < env.length := by rw [S.len]; exact hi
      rw [List.getD_eq_getElem?_getD, List.getElem?_set_self hl] at e
      cases e
    · rw [List.getD_eq_getElem?_getD, List.getElem?_set_ne (Ne.symm c), ← List.getD_eq_getElem?_getD] at e
      rw [if_neg c]
      exact S.non j e
theorem SR.drop (S : SR w K B ρ H g env σ own E) : SR w K B ρ H g env σ own [] :=
  ⟨S.cells, S.badT, S.len, fun i t f e => let ⟨v, a, b⟩ := S.each i t f e; ⟨v, a, b.weakB fun x z => z.imp id fun z => z.imp id fun z => by simp at z⟩, S.non, by simp⟩
theorem Step.to {ρ0 : List Addr} {own0 own1 own2 : Nat → List Addr} {H0 : Hp} {E2 : List Addr} (st : Step ρ0 own0 H0 ρ own1 E H) (h1 : ∀ j a, a ∈ own2 j → (∃ i, a ∈ own1 i) ∨ a ∈ E) (h2 : ∀ a ∈ E2, (∃ i, a ∈ own1 i) ∨ a ∈ E) : Step ρ0 own0 H0 ρ own2 E2 H :=
  ⟨st.keep, st.tups, st.frzs, st.more, fun j a ha => (h1 j a ha).elim (fun ⟨i, z⟩ => st.owns i a z) fun z => st.ext a z, fun a ha => (h2 a ha).elim (fun ⟨i, z⟩ => st.owns i a z) fun z => st.ext a z, st.live⟩
/-- several results into names -/
theorem SR.putAll : ∀ {is : List Nat} {vs : List V} {rs : List (T × Nat)} {env : VEnv} {σ : L2.St} {own : Nat → List Addr} {E : List Addr}, rs.length = is.length → SR w K B ρ H g env σ own E → (∀ i ∈ is, i < σ.length) →
    RFs w K ρ H (fun a => (B a ∨ a ∈ ρ) ∨ ∃ j, a ∈ own j) vs (rs.map norm) E → ∃ own', SR w K B ρ H g (Fx.putAll (is.zip rs) env) ((is.zip vs).foldl (fun σ p => σ.set p.1 (some p.2)) σ) own' [] ∧ ∀ j a, a ∈ own' j → (∃ i, a ∈ own i) ∨ a ∈ E
  | [], vs, rs, env, σ, own, E, hl, S, hi, h => ⟨own, S.drop, fun j a z => .inl ⟨j, z⟩⟩
  | i :: is, vs, [], env, σ, own, E, hl, S, hi, h => by simp at hl
  | i :: is, vs, r :: rs, env, σ, own, E, hl, S, hi, h => by
    cases h with
    | cons h1 h2 =>
      rename_i v A vs A2
      have S2 := S.store (A := A) (E2 := A2) (i := i) (fun a z => List.mem_append.mpr z) (hi i (by simp)) h1
      obtain ⟨own', S3, o3⟩ := SR.putAll (is := is) (vs := vs) (rs := rs) (by simpa using hl) S2 (fun j hj => by rw [List.length_set]; exact hi j (by simp [hj])) (h2.weak fun a z => by
        rcases z with z | ⟨j, z⟩
        · exact .inl (.inl z)
        · by_cases c : j = i
          · rw [if_pos c] at z
            exact .inr z
          · rw [if_neg c] at z
            exact .inl (.inr ⟨j, z⟩))
      refine ⟨own', S3, fun j a z => ?_⟩
      rcases o3 j a z with ⟨k, z⟩ | z
      · by_cases c : k = i
        · rw [if_pos c] at z
          exact .inr (List.mem_append.mpr (.inl z))
        · rw [if_neg c] at z
          exact .inl ⟨k, z⟩
      · exact .inr (List.mem_append.mpr (.inr z))
end
/-- what a statement's end is to give -/
def EndOf (X : Cx) (B : Addr → Prop) (ρ : List Addr) (own : Nat → List Addr) (H : Hp) (f : Fl) (g' : List T) (Dn : Ends) : Prop := match f with
  | .nx env' => ∀ σ' H' ρ' own', Step ρ own H ρ' own' [] H' → SR X.w X.K B ρ' H' g' env' σ' own' [] → Dn.nx σ' H'
  | .bk env' => ∀ σ' H' ρ' own', Step ρ own H ρ' own' [] H' → SR X.w X.K B ρ' H' g' env' σ' own' [] → Dn.bk σ' H'
  | .ct env' => ∀ σ' H' ρ' own', Step ρ own H ρ' own' [] H' → SR X.w X.K B ρ' H' g' env' σ' own' [] → Dn.ct σ' H'
  | .rt r => ∀ v H' ρ' own' A, Step ρ own H ρ' own' A H' → Cells X.w X.K ρ' H' g' → RF X.w X.K ρ' (fun a => B a ∨ a ∈ ρ') H' v r.1 r.2 A → Dn.rt v H'
structure Bd (X : Cx) : Prop where
  fn : ∀ x, X.fn x = true
  pass : PassesOwn (model X.prog X.w) X.A X.env X.xe
def SS (D : Dec) (F : Call) (W : Nat) (c : S) : Prop := ∀ (X : Cx), Gd X D F → Bd X → ∀ (st : Stmt) (σ : L2.St) (ρ : List Addr) (B : Addr → Prop) (H : Hp) (g g' : List T) (env : VEnv) (own : Nat → List Addr) (f : Fl),
  SR X.w X.K B ρ H g env σ own [] → chkS D X.N X.env.scope c st = true → evalS F W c env g = .ok f g' → ∀ Dn : Ends, EndOf X B ρ own H f g' Dn → wS X st Dn σ H
def SSs (D : Dec) (F : Call) (W : Nat) (c : Ss) : Prop := ∀ (X : Cx), Gd X D F → Bd X → ∀ (st : List Stmt) (σ : L2.St) (ρ : List Addr) (B : Addr → Prop) (H : Hp) (g g' : List T) (env : VEnv) (own : Nat → List Addr) (f : Fl),
  SR X.w X.K B ρ H g env σ own [] → chkSs D X.N X.env.scope c st = true → evalSs F W c env g = .ok f g' → ∀ Dn : Ends, EndOf X B ρ own H f g' Dn → wSs X st Dn σ H
theorem EndOf.mono {X : Cx} {B : Addr → Prop} {ρ ρ1 : List Addr} {own own1 : Nat → List Addr} {H H1 : Hp} {E : List Addr} {f : Fl} {g' : List T} {Dn : Ends} (st : Step ρ own H ρ1 own1 E H1) (h : EndOf X B ρ own H f g' Dn) : EndOf X B ρ1 own1 H1 f g' Dn := by
  cases f with
  | nx env' => exact fun σ' H' ρ' own' st' S => h σ' H' ρ' own' (st.trans st') S
  | bk env' => exact fun σ' H' ρ' own' st' S => h σ' H' ρ' own' (st.trans st') S
  | ct env' => exact fun σ' H' ρ' own' st' S => h σ' H' ρ' own' (st.trans st') S
  | rt r => exact fun v H' ρ' own' A st' => h v H' ρ' own' A (st.trans st')

/-! ### name = value -/
theorem tLc.mono {X : Cx} {tg it : Expr} {gg : TG} {tt : TT} {te : TE} {vs : List Nat} {σ : L2.St} {H : Hp} {Q Q' : VK} (h : tLc (wI X tg it) gg tt te vs σ H Q) (k : ∀ v H', Q v H' → Q' v H') : tLc (wI X tg it) gg tt te vs σ H Q' :=
  wI.mono h fun J H1 q D hD => by
    obtain ⟨Wm, m, q⟩ := q D hD
    refine ⟨Wm, m, fun i m H' hw => ?_⟩
    rcases q i m H' hw with ⟨a, b⟩ | z
    · exact .inl ⟨a, k _ _ b⟩
    · exact .inr z
theorem swaps_pure {e : Expr} {x : Str} {p : Pos} {l : Nat} {env : PySem.Env} (h : okE e = true) : isLC e = false → swapsWith e (some (.Name x p)) l env = pure false := by
  intro hl
  cases e <;> first | rfl | (cases h; done) | (cases hl; done)
theorem swaps_lc {elt : Expr} {gs : List Comprehension} {sc : Scope} {pos p : Pos} {x : Str} {l : Nat} {env : PySem.Env} :
    ∃ b, swapsWith (.ListComp elt gs sc pos) (some (.Name x p)) l env = pure b ∧ (b = true → env.kindOf x = some .local) := by
  refine ⟨env.blockKind == .function && env.kindOf x == some .local && p.line == pos.line && !(sc.names.any fun (n, k) => n == x && (k == .local || k == .cell)), rfl, fun h => ?_⟩
  obtain ⟨h, _⟩ := band h
  obtain ⟨h, _⟩ := band h
  obtain ⟨_, h⟩ := band h
  exact eq_of_beq h
/-- storing a result over the names ns -/
theorem store_end {X : Cx} {σ : L2.St} {ρ : List Addr} {B : Addr → Prop} {H H1 : Hp} {g g' : List T} {env : VEnv} {own : Nat → List Addr} {ns : List Nat} {r : T × Nat} {i : Nat} {v : V} {Dn : Ends} (S : SR X.w X.K B ρ H g env σ own []) (hi : i < σ.length)
    (hD : EndOf X B ρ own H (.nx ((after ns (norm r).2 env).set i (some (norm r)))) g' Dn) (q : Post X.w X.K ρ (BadN B ρ own ns) H r.1 r.2 g' v H1) : Dn.nx (σ.set i (some v)) H1 := by
  obtain ⟨ρ', A, st, S2, h, _⟩ := S.post q
  have S3 := S2.store (A := A) (E2 := []) (i := i) (v := v) (t := r.1) (f := (norm r).2) (by simp) hi (h.weakB fun a z => by
    rcases z with z | z
    · exact z
    · simp at z)
  have e : (r.1, (norm r).2) = norm r := by rw [← norm_t r]
  rw [e] at S3
  refine hD _ _ ρ' _ (st.to (fun j a z => ?_) (by simp)) S3
  by_cases c : j = i
  · rw [if_pos c] at z
    exact .inr z
  · rw [if_neg c] at z
    exact .inl ⟨j, z⟩
theorem tgOne {X : Cx} {i : Nat} {tg : Expr} (G : Gd X D F) (b : Bd X) (h : chkTg X.N X.env.scope (fun _ => true) (.one i) tg = true) : ∃ x pos, tg = .Name x pos ∧ X.N[i]? = some x ∧ Loc X.env.scope x ∧ i < X.N.length := by
  have h' : tgName X.N X.env.scope i (fun _ => true) tg = true := h
  have hl := tgName_lt h'
  unfold tgName at h'
  split at h'
  · rename_i x pos
    obtain ⟨h1, h2⟩ := band h'
    refine ⟨x, pos, rfl, of_decide_eq_true h1, ?_, hl⟩
    split at h2
    · rename_i q; exact .inl q
    · rename_i q; exact .inr q
    · cases h2
  · cases h'
theorem ss_set {i : Nat} {ns : List Nat} {e : E} : SS D F W (.set i ns e) := by
  intro X G b st σ ρ B H g g' env own f S hc he Dn hD
  unfold chkS at hc
  split at hc
  · rename_i tg e' pos
    obtain ⟨h1, h2⟩ := band hc
    obtain ⟨x, p, rfl, hN, hx, hlt⟩ := tgOne G b h1
    unfold evalS at he
    obtain ⟨r, g1, er, he⟩ := Out.bind_eq he
    cases he
    refine wS.len fun hlen hk => ?_
    have hi : i < σ.length := by rw [hlen]; exact hlt
    by_cases lc : isLC e' = true
    · cases e' with
      | ListComp elt gs sc pos' =>
        obtain ⟨bb, sw, loc⟩ := swaps_lc (elt := elt) (gs := gs) (sc := sc) (pos := pos') (p := p) (x := x) (l := pos.line) (env := X.env)
        cases bb with
        | false => exact wS.of (ps_set G.nd hN hx (wE.pe X _) sw (.inl (b.fn x))) (((soundE e).1 X G _ σ ρ (BadN B ρ own ns) H g _ _ r.1 r.2 (S.sit ns) h2 er).mono fun v H1 q => store_end S hi hD q)
        | true =>
          cases e with
          | comp elt0 own0 tg0 it0 cond0 =>
            obtain ⟨elt', tg', it', ifs', scope, pos2, eq, blk, k1, k2, k3, k4, k5⟩ := comp_read (soundIt it0) (soundE cond0).2 (soundE elt0).1 G (S.sit ns) h2 er
            cases eq
            exact wS.of (ps_setLc G.calm G.nd hN (loc rfl) sw (wI.pi X tg' it') blk k1 k2 k3 k4) (Fx.tLc.mono (k5 hlen) fun v H1 q => store_end S hi hD q)
          | _ => unfold chkE at h2; cases h2
      | _ => cases lc
    · exact wS.of (ps_set G.nd hN hx (wE.pe X _) (swaps_pure (okE_chk h2) (by simpa using lc)) (.inl (b.fn x))) (((soundE e).1 X G _ σ ρ (BadN B ρ own ns) H g _ _ r.1 r.2 (S.sit ns) h2 er).mono fun v H1 q => store_end S hi hD q)
  · cases hc
/-! ### ends -/
theorem ss_ret {ns : List Nat} {e : E} : SS D F W (.ret ns e) := by
  intro X G b st σ ρ B H g g' env own f S hc he Dn hD
  unfold chkS at hc
  split at hc
  · rename_i e' pos
    unfold evalS at he
    obtain ⟨r, g1, er, he⟩ := Out.bind_eq he
    cases he
    refine wS.of (ps_ret (wE.pe X e')) (((soundE e).1 X G e' σ ρ (BadN B ρ own ns) H g _ _ r.1 r.2 (S.sit ns) hc er).mono fun v H1 q => ?_)
    obtain ⟨ρ', A, k1, k2, k3, _⟩ := S.post q
    obtain ⟨r0, A0, kp, hr, cl, h, hA⟩ := q
    have st0 : Step ρ own H (ρ ++ r0) own A0 H1 :=
      ⟨fun a o e n _ => kp a o e n, fun a xs e => kp a _ e (S.cells.apart.tup a xs e), fun a o u e => kp a _ e (S.cells.apart.frz a o u e), ⟨r0, rfl, hr⟩, fun j a h => .inl ⟨j, h⟩, fun a ha => .inr (hA a ha), k1.live⟩
    refine hD v H1 _ own A0 st0 cl (h.weakB fun a z => ?_)
    rcases z with z | z
    · exact .inl (.inl (.inl z))
    · rcases List.mem_append.mp z with z | z
      · exact .inl (.inl (.inr z))
      · exact .inr z
  · cases hc
theorem var_of {X : Cx} (G : Gd X D F) {i : Nat} {e' : Expr} (hc : chkE D X.N X.env.scope (.var i) e' = true) : ∃ x pos, e' = .Name x pos ∧ X.N[i]? = some x ∧ Vis X.env.scope x ∧ (x == ("__debug__" : Str)) = false ∧ (x == ("__classdict__" : Str)) = false := by
  unfold chkE at hc
  split at hc
  · rename_i x pos
    obtain ⟨h12, h3⟩ := band hc
    obtain ⟨h1, h2⟩ := band h12
    exact ⟨x, pos, rfl, of_decide_eq_true h1, vis_of h2, (name_of h3).1, (name_of h3).2⟩
  · cases hc
end Fx
end

section
set_option Elab.async false
set_option linter.all false
set_option maxRecDepth 100000
/-! Fx29: statements: returns, calls, branches, tuples of targets. -/
namespace Fx
open PySem PySem.Spec PyProof.Rows L2
variable {D : Dec} {F : Call} {W : Nat}

section
variable {w : World} {K : PySem.W.Frag} {ρ ρ' : List Addr} {B B' : Addr → Prop} {H H' : Hp} {g g' : List T} {env : VEnv} {σ : L2.St} {own own' : Nat → List Addr} {E : List Addr}
/-- behind an expression whose value is gone -/
theorem SR.base (S : SR w K B ρ H g env σ own []) (q : Base w K ρ H g' H') : ∃ ρ', Step ρ own H ρ' own [] H' ∧ SR w K B ρ' H' g' env σ own [] := by
  obtain ⟨ρ', A, k1, k2, k3, k4⟩ := S.post (ns := []) (r := (.non, 2)) (v := .non) (Base.post q fun _ _ => .non)
  have e : (norm (T.non, 2)).2 = 2 := rfl
  rw [e] at k1 k2
  have e1 : after [] 2 env = env := rfl
  have e2 : ownAfter [] 2 own = own := by
    funext j
    rfl
  rw [e1, e2] at k2
  rw [e2] at k1
  exact ⟨ρ', k1.to (fun j a z => .inl ⟨j, z⟩) (by simp), k2.drop⟩
end
theorem ss_retV {i : Nat} : SS D F W (.retV i) := by
  intro X G b st σ ρ B H g g' env own f S hc he Dn hD
  unfold chkS at hc
  split at hc
  · rename_i e' pos
    obtain ⟨x, p, rfl, hN, hv, d1, d2⟩ := var_of G hc
    unfold evalS at he
    split at he
    · rename_i r hr
      cases he
      obtain ⟨v, q1, q2⟩ := S.each i r.1 r.2 hr
      refine wS.of (ps_ret (pe_var hN hv d1 d2)) ⟨v, q1, ?_⟩
      refine hD v H ρ own (own i) (Step.refl.to (fun j a z => .inl ⟨j, z⟩) fun a z => .inl ⟨i, z⟩) S.cells (q2.weakB fun a z => .inl z)
    · cases he
  · cases hc
theorem ss_retT {i : Nat} {ns : List Nat} {es : Es} : SS D F W (.retT i ns es) := by
  intro X G b st σ ρ B H g g' env own f S hc he Dn hD
  unfold chkS at hc
  split at hc
  · rename_i o vs k tp pos
    obtain ⟨hc, h3⟩ := band hc
    obtain ⟨h1, h2⟩ := band hc
    obtain ⟨x, p, rfl, hN, hv, d1, d2⟩ := var_of G h1
    unfold evalS at he
    split at he
    · rename_i t f hr
      split at he
      · cases he
      · rename_i nc
        obtain ⟨rs, g1, er, he⟩ := Out.bind_eq he
        cases he
        obtain ⟨v, q1, q2⟩ := S.each i t f hr
        refine wS.of (ps_ret (pe_tup (pa_cons (pe_var hN hv d1 d2) (wA.pa X vs) (starEach_ok rfl)))) ⟨v, q1, ?_⟩
        refine ((soundEs es).1 X G vs σ ρ (BadN B ρ own ns) H g _ _ rs (S.sit ns) h2 er).mono fun us H1 q => ?_
        have hlen : (v :: us).length ≤ sizeLine := by
          obtain ⟨_, _, _, _, _, z, _⟩ := q
          have e1 := z.length
          have e2 := evalEs_len er h2
          have e3 := of_decide_eq_true h3
          rw [List.length_cons, e1, e2]
          exact small_len (by omega)
        refine ⟨hlen, fun pp np => ?_⟩
        obtain ⟨ρ', A0, k1, k2, k3, k4⟩ := S.postL q
        obtain ⟨r, A, kp, hr', cl, h, hA⟩ := q
        have ap := S.cells.apart
        have m1 : Mv ρ (ρ ++ r) (fun a => (B a ∨ a ∈ ρ) ∨ (∃ j, j ≠ i ∧ a ∈ own j) ∨ a ∈ ([] : List Addr)) (fun a => B a ∨ a ∈ ρ ++ r) H H1 := .of kp ap (fun a ha => .inl (.inr ha)) (fun a z => by
          rcases z with z | z
          · exact .inl (.inl (.inl z))
          · rcases List.mem_append.mp z with z | z
            · exact .inl (.inl (.inr z))
            · exact .inr (hr' a z)) ⟨r, rfl⟩
        have v1 := q2.mv m1
        have h1 : RFs X.w X.K (ρ ++ r) H1 (fun a => (B a ∨ a ∈ ρ ++ r)) us rs A := h.weak fun a z => by
          rcases z with z | z
          · exact .inl (.inl (.inl z))
          · rcases List.mem_append.mp z with z | z
            · exact .inl (.inl (.inr z))
            · exact .inr z
        have st1 : Step ρ own H (ρ ++ r) own (own i ++ A) (upd H1 pp (.tup (v :: us))) := by
          refine ⟨fun a o e n _ => ?_, fun a xs e => ?_, fun a o u e => ?_, ⟨r, rfl, hr'⟩, fun j a h => .inl ⟨j, h⟩, fun a ha => ?_, fun a z => ?_⟩
          · have := kp a o e n
            rw [upd_ne (ne_of_none this np)]; exact this
          · have := kp a _ e (ap.tup a xs e)
            rw [upd_ne (ne_of_none this np)]; exact this
          · have := kp a _ e (ap.frz a o u e)
            rw [upd_ne (ne_of_none this np)]; exact this
          · rcases List.mem_append.mp ha with z | z
            · exact .inl ⟨i, z⟩
            · exact .inr (hA a z)
          · have := k1.live a z
            by_cases c : a = pp
            · rw [c, upd_same]; simp
            · rw [upd_ne c]; exact this
        have dis : ∀ a ∈ own i, a ∉ A := fun a ha z => (S.live i a ha).1 (hA a z)
        by_cases f2 : f = 2 ∧ allFl rs = true
        · obtain ⟨rfl, f2'⟩ := f2
          refine hD (.ref pp) _ (ρ ++ r) own (own i ++ A) st1 (cl.fresh np) (.inr (.inr ⟨if_pos ⟨rfl, f2'⟩, .tup (SqT.of upd_same) (.cons (v1.own2.mv (Mv.fresh np) v1.nb) ((h1.own f2').mv (Mv.fresh np) h1.nb)), List.nodup_append.mpr ⟨v1.nodup, h1.nodup, fun a ha b hb e => dis a ha (e ▸ hb)⟩, fun a ha => ?_⟩))
          rcases List.mem_append.mp ha with z | z
          · exact v1.nb a z
          · exact h1.nb a z
        · exact hD (.ref pp) _ (ρ ++ r) own [] (st1.to (fun j a z => .inl ⟨j, z⟩) (by simp)) (cl.fresh np) (.inl ⟨if_neg f2, rfl, .tup (SqT.of upd_same) (.cons (A := []) (A' := []) (v1.sh.mv (Mv.fresh np) (by simp)) (h1.sh.mv (Mv.fresh np) (by simp)))⟩)
    · cases he
  · cases hc
theorem ss_exp {ns : List Nat} {e : E} : SS D F W (.exp ns e) := by
  intro X G b st σ ρ B H g g' env own f S hc he Dn hD
  unfold chkS at hc
  split at hc
  · rename_i e' pos
    obtain ⟨h1, h2⟩ := band hc
    unfold evalS at he
    obtain ⟨r, g1, er, he⟩ := Out.bind_eq he
    cases he
    have hs : swapsWith e' Option.none pos.line X.env = pure false := by
      have := okE_chk h1
      cases e' <;> first | rfl | (cases this; done) | (cases h2; done)
    refine wS.of (ps_expr (wE.pe X e') hs) (((soundE e).1 X G e' σ ρ (BadN B ρ own ns) H g _ _ r.1 r.2 (S.sit ns) h1 er).mono fun v H1 q => ?_)
    obtain ⟨ρ', k1, k2⟩ := S.base q.base
    exact hD σ H1 ρ' own k1 k2
  · cases hc
theorem ss_rai : SS D F W .rai := by
  intro X G b st σ ρ B H g g' env own f S hc he Dn hD
  cases he
theorem ss_pas : SS D F W .pas := by
  intro X G b st σ ρ B H g g' env own f S hc he Dn hD
  unfold chkS at hc
  split at hc
  · unfold evalS at he
    cases he
    exact wS.of ps_pass (hD σ H ρ own .refl S)
  · cases hc
theorem ss_brk : SS D F W .brk := by
  intro X G b st σ ρ B H g g' env own f S hc he Dn hD
  unfold chkS at hc
  split at hc
  · unfold evalS at he
    cases he
    exact wS.of ps_break (hD σ H ρ own .refl S)
  · cases hc
theorem ss_cnt : SS D F W .cnt := by
  intro X G b st σ ρ B H g g' env own f S hc he Dn hD
  unfold chkS at hc
  split at hc
  · unfold evalS at he
    cases he
    exact wS.of ps_continue (hD σ H ρ own .refl S)
  · cases hc
theorem ss_ifs {ns : List Nat} {c : E} {a b : Ss} (ha : SSs D F W a) (hb : SSs D F W b) : SS D F W (.ifs ns c a b) := by
  intro X G bd st σ ρ B H g g' env own f S hc he Dn hD
  unfold chkS at hc
  split at hc
  · rename_i c' a' b' pos
    obtain ⟨hc, h3⟩ := band hc
    obtain ⟨h1, h2⟩ := band hc
    unfold evalS at he
    obtain ⟨x, g1, ec, he⟩ := Out.bind_eq he
    have run : ∀ tt, x.1.truth = some tt → (∀ ρ' H1, Step ρ own H ρ' own [] H1 → SR X.w X.K B ρ' H1 g1 env σ own [] → if tt = true then wSs X a' Dn σ H1 else wSs X b' Dn σ H1) → wS X (.If c' a' b' pos) Dn σ H := by
      intro tt e1 k
      refine wS.of (ps_if (wT.pt X c') (wSs.pss X a') (wSs.pss X b')) (((soundE c).2 X G c' σ ρ (BadN B ρ own ns) H g g1 _ x.1 x.2 tt (S.sit ns) h1 ec e1).mono fun d H1 q => ?_)
      obtain ⟨rfl, bs⟩ := q
      obtain ⟨ρ', k1, k2⟩ := S.base bs
      exact k ρ' H1 k1 k2
    split at he
    · rename_i e1
      refine run true e1 fun ρ' H1 k1 k2 => ?_
      rw [if_pos rfl]
      exact ha X G bd a' σ ρ' B H1 g1 g' env own f k2 h2 he Dn (hD.mono k1)
    · rename_i e1
      refine run false e1 fun ρ' H1 k1 k2 => ?_
      rw [if_neg Bool.false_ne_true]
      exact hb X G bd b' σ ρ' B H1 g1 g' env own f k2 h3 he Dn (hD.mono k1)
    · cases he
  · cases hc
theorem sss_nil : SSs D F W .nil := by
  intro X G b st σ ρ B H g g' env own f S hc he Dn hD
  unfold chkSs at hc
  split at hc
  · unfold evalSs at he
    cases he
    exact wSs.of pss_nil (hD σ H ρ own .refl S)
  · cases hc
theorem sss_cons {s : S} {r : Ss} (h1 : SS D F W s) (h2 : SSs D F W r) : SSs D F W (.cons s r) := by
  intro X G b st σ ρ B H g g' env own f S hc he Dn hD
  unfold chkSs at hc
  split at hc
  · rename_i st' q
    obtain ⟨c1, c2⟩ := band hc
    unfold evalSs at he
    obtain ⟨f1, g1, e1, he⟩ := Out.bind_eq he
    refine wSs.of (pss_cons (wS.ps X st') (wSs.pss X q)) ?_
    refine h1 X G b st' σ ρ B H g g1 env own f1 S c1 e1 _ ?_
    cases f1 with
    | nx env1 =>
      intro σ' H' ρ' own' k1 k2
      exact h2 X G b q σ' ρ' B H' g1 g' env1 own' f k2 c2 he Dn (hD.mono k1)
    | rt r1 =>
      cases he
      exact hD
    | bk env1 =>
      cases he
      exact hD
    | ct env1 =>
      cases he
      exact hD
  · cases hc
end Fx
end

section
set_option Elab.async false
set_option linter.all false
set_option maxRecDepth 100000
/-! Fx30: several targets. -/
namespace Fx
open PySem PySem.Spec PyProof.Rows L2
variable {D : Dec} {F : Call} {W : Nat}

theorem swaps_tup {e : Expr} {ts : List Expr} {k : Nat} {p : Pos} {l : Nat} {env : PySem.Env} : swapsWithSole [.Tuple ts k p] e l env = pure false := by
  cases e <;> rfl
theorem noLocal {env : PySem.Env} {line : Nat} : ∀ {ts : List Expr}, (ts.any fun t => match t with
    | .Name x _ => !(env.scope.names.lookup x == some .local)
    | _ => false) = true → (ts.filterMap fun
    | .Name id pos => if env.kindOf id == some .local && pos.line == line then some id else none
    | _ => none).length < ts.length
  | [], h => by cases h
  | t :: r, h => by
    have le : ∀ r : List Expr, (r.filterMap fun
      | .Name id pos => if env.kindOf id == some .local && pos.line == line then some id else none
      | _ => none).length ≤ r.length := fun r => List.length_filterMap_le _ _
    rw [List.any_cons] at h
    rcases Bool.or_eq_true_iff.mp h with h | h
    · cases t with
      | Name x p =>
        have h' : (!(env.scope.names.lookup x == some .local)) = true := h
        have e : (env.kindOf x == some .local && p.line == line) = false := by
          have : (env.kindOf x == some .local) = false := by
            show (env.scope.names.lookup x == some .local) = false
            simpa using h'
          rw [this]; rfl
        rw [List.filterMap_cons]
        simp only [e, Bool.false_eq_true, if_false]
        have := le r
        simp only [List.length_cons]
        omega
      | _ => cases h
    · have ih := noLocal (line := line) h
      rw [List.filterMap_cons]
      split
      · simp only [List.length_cons]; omega
      · simp only [List.length_cons]; omega
theorem swapped_none {e : Expr} {ts : List Expr} {k : Nat} {p : Pos} {env : PySem.Env} (h : noSwap env.scope (.Tuple ts k p) e = true) : swappedStores [.Tuple ts k p] e env = pure none := by
  cases e with
  | Tuple vs k2 p2 =>
    have h' := noLocal (env := env) (line := (ts.head?.map (·.pos.line)).getD 0) (show (ts.any fun t => match t with
      | .Name x _ => !(env.scope.names.lookup x == some .local)
      | _ => false) = true from h)
    unfold swappedStores
    show (if (_ : Bool) = true then _ else _) = _
    split
    · rfl
    · show (if (_ : Bool) = true then _ else _) = _
      split
      · rfl
      · exact if_pos (Bool.or_eq_true_iff.mpr (.inl (bne_iff_ne.mpr (Nat.ne_of_lt h'))))
  | _ => rfl
section
variable {w : World} {K : PySem.W.Frag} {ρ ρ' : List Addr} {B B' : Addr → Prop} {H H' : Hp}
theorem R.rf0 {v : V} {t : T} (h : R w K ρ B H false v t []) : RF w K ρ B H v (norm (t, 0)).1 (norm (t, 0)).2 [] := by
  unfold norm
  split
  · rename_i f
    exact (h.flat (o' := true) (B' := B) f).1.rf (.inl ⟨rfl, rfl⟩)
  · exact .inl ⟨rfl, rfl, h⟩
theorem Rs.rfs0 : ∀ {vs : List V} {ts : List T}, Rs w K ρ B H false vs ts [] → RFs w K ρ H B vs ((ts.map fun t => (t, 0)).map norm) []
  | [], [], _ => .nil
  | [], _ :: _, h => by cases h
  | _ :: _, [], h => by cases h
  | v :: vs, t :: ts, h => by
    obtain ⟨r1, r2⟩ := h.inv0
    exact .cons (A := []) (A' := []) (r1.rf0.weakB fun a z => z.elim id fun z => by simp at z) (r2.rfs0.weak fun a z => z.elim id fun z => by simp at z)
end
theorem gNs_fold {Q : L2.St → Hp → Prop} {H : Hp} : ∀ {is : List Nat} {vs : List V} {σ : L2.St}, vs.length = is.length → Q ((is.zip vs).foldl (fun σ p => σ.set p.1 (some p.2)) σ) H → gNs is vs σ H Q
  | [], [], σ, _, q => ⟨rfl, q⟩
  | [], _ :: _, σ, h, q => by simp at h
  | _ :: _, [], σ, h, q => by simp at h
  | i :: is, v :: vs, σ, h, q => ⟨v, vs, rfl, gNs_fold (by simpa using h) q⟩
theorem ss_unp {is ns : List Nat} {e : E} : SS D F W (.unp is ns e) := by
  intro X G b st σ ρ B H g g' env own f S hc he Dn hD
  unfold chkS at hc
  split at hc
  · rename_i tg e' pos
    obtain ⟨hc, h3⟩ := band hc
    obtain ⟨h1, h2⟩ := band hc
    have lt := chkTg_lt h1
    have pg := tg_pg (tg := .many is) G.nd G.calm (fun x _ => b.fn x) h1
    unfold chkTg at h1
    simp only at h1
    split at h1
    · unfold evalS at he
      obtain ⟨r, g1, er, he⟩ := Out.bind_eq he
      obtain ⟨he1, rfl⟩ := Out.of_eq he
      obtain ⟨env', he, rfl⟩ := Option.map_eq_some_iff.mp he1
      refine wS.len fun hlen hk => ?_
      refine wS.of (ps_asg (wE.pe X e') pg swaps_tup (swapped_none h3)) (((soundE e).1 X G e' σ ρ (BadN B ρ own ns) H g _ _ r.1 r.2 (S.sit ns) h2 er).mono fun v H1 q => ?_)
      obtain ⟨ρ', A, k1, k2, k3, k4⟩ := S.post q
      unfold bindV at he
      simp only at he
      split at he
      · rename_i us hu
        split at he
        · rename_i hl
          cases he
          have r3 := k3.sh
          rw [hu] at r3
          obtain ⟨a, vs, rfl, hT, rs⟩ := r3.tup_inv
          refine ⟨a, vs, rfl, hT, by rw [rs.length, hl], gNs_fold (by rw [rs.length, hl]) ?_⟩
          obtain ⟨own', S3, o3⟩ := SR.putAll (is := is) (vs := vs) (rs := us.map fun t => (t, 0)) (by simpa using hl) k2.drop (fun i hi => by rw [hlen]; exact lt i hi) (rs.rfs0)
          refine hD _ H1 ρ' own' (k1.to (fun j a z => (o3 j a z).imp id fun z => by simp at z) (by simp)) S3
        · cases he
      · cases he
    · cases h1
  · cases hc
theorem unpop_names {X : Cx} {is : List Nat} {ts : List Expr} {k : Nat} {p : Pos} (h : chkTg X.N X.env.scope (fun _ => true) (.many is) (.Tuple ts k p) = true) : tgNames X.N X.env.scope (fun _ => true) is ts = true ∧ is.Nodup := by
  obtain ⟨h1, h2⟩ := band (show (tgNames X.N X.env.scope (fun _ => true) is ts && decide is.Nodup) = true from h)
  exact ⟨h1, of_decide_eq_true h2⟩
theorem nameOf {N : List Str} {sc : Scope} {i : Nat} {e : Expr} (h : tgName N sc i (fun _ => true) e = true) : ∃ x pos, e = .Name x pos ∧ N[i]? = some x := by
  unfold tgName at h
  split at h
  · rename_i x pos
    obtain ⟨h1, _⟩ := band h
    exact ⟨x, pos, rfl, of_decide_eq_true h1⟩
  · cases h
theorem noStars {vs : List Expr} (h : ∀ e ∈ vs, okE e = true) : (vs.any fun | .Starred .. => true | _ => false) = false := by
  rw [List.any_eq_false]
  intro e he
  have := h e he
  cases e <;> first | (cases this; done) | simp
theorem nd_ne {N : List Str} (nd : N.Nodup) {i j : Nat} {x y : Str} (hi : N[i]? = some x) (hj : N[j]? = some y) (h : i ≠ j) : x ≠ y := by
  intro e
  subst e
  obtain ⟨li, ei⟩ := List.getElem?_eq_some_iff.mp hi
  obtain ⟨lj, ej⟩ := List.getElem?_eq_some_iff.mp hj
  exact h ((List.getElem_inj nd).mp (ei.trans ej.symm))
theorem swapped2 {env : PySem.Env} {x y : Str} {px py pt : Pos} {kt k2 : Nat} {pt2 : Pos} {a b : Expr} (hk : env.scope.kind = .function) (p : parOk env.scope [.Name x px, .Name y py] [a, b] = true) (hok : ∀ e ∈ [a, b], okE e = true) (ne : x ≠ y) :
    swappedStores [.Tuple [.Name x px, .Name y py] kt pt] (.Tuple [a, b] k2 pt2) env = pure (some [x, y]) ∧ env.scope.names.lookup x = some .local ∧ env.scope.names.lookup y = some .local := by
  obtain ⟨p, p4⟩ := band p
  obtain ⟨p, p3⟩ := band p
  obtain ⟨p1, p2⟩ := band p
  simp only [List.all_cons, List.all_nil, Bool.and_true, Bool.and_eq_true, decide_eq_true_eq, List.head?_cons, Option.map_some, Option.getD_some] at p4
  obtain ⟨⟨l1, _⟩, l2, l3⟩ := p4
  refine ⟨?_, l1, l2⟩
  have hb : env.blockKind = .function := by unfold Env.blockKind; rw [hk]; rfl
  have c1 : env.kindOf x = some .local := l1
  have c2 : env.kindOf y = some .local := l2
  have c3 : (py.line == px.line) = true := l3
  have f1 : ([a, b].all (foldedForSure 8)) = false := by rw [Bool.not_eq_true'] at p2; exact p2
  have f2 : ([a, b].all (constantsAlone 8)) = false := by rw [Bool.not_eq_true'] at p3; exact p3
  have e1 : ([x, y] : List Str).eraseDups = [x, y] := by simp [List.eraseDups_cons, Ne.symm ne]
  unfold swappedStores
  refine (if_neg ?_).trans ((if_neg ?_).trans ((if_neg ?_).trans ((if_neg ?_).trans ?_)))
  · simp [hb]
  · exact Bool.eq_false_iff.mp (noStars hok)
  · simp only [List.filterMap_cons, List.filterMap_nil, c1, c2, c3, Expr.pos, List.head?_cons, Option.map_some, Option.getD_some, beq_self_eq_true, Bool.and_self, if_true, e1, List.length_cons, List.length_nil]
    decide
  · rw [f1]; simp
  · rw [f2]
    simp only [List.filterMap_cons, List.filterMap_nil, c1, c2, c3, Expr.pos, List.head?_cons, Option.map_some, Option.getD_some, beq_self_eq_true, Bool.and_self, if_true]
    rfl
theorem swapped3 {env : PySem.Env} {x y z : Str} {px py pz pt : Pos} {kt k2 : Nat} {pt2 : Pos} {a b c : Expr} (hk : env.scope.kind = .function) (p : parOk env.scope [.Name x px, .Name y py, .Name z pz] [a, b, c] = true) (hok : ∀ e ∈ [a, b, c], okE e = true) (ne : x ≠ y) (ne2 : x ≠ z) (ne3 : y ≠ z) :
    swappedStores [.Tuple [.Name x px, .Name y py, .Name z pz] kt pt] (.Tuple [a, b, c] k2 pt2) env = pure (some [x, y, z]) ∧ env.scope.names.lookup x = some .local ∧ env.scope.names.lookup y = some .local ∧ env.scope.names.lookup z = some .local := by
  obtain ⟨p, p4⟩ := band p
  obtain ⟨p, p3⟩ := band p
  obtain ⟨p1, p2⟩ := band p
  simp only [List.all_cons, List.all_nil, Bool.and_true, Bool.and_eq_true, decide_eq_true_eq, List.head?_cons, Option.map_some, Option.getD_some] at p4
  obtain ⟨⟨l1, _⟩, ⟨l2, l3⟩, l4, l5⟩ := p4
  refine ⟨?_, l1, l2, l4⟩
  have hb : env.blockKind = .function := by unfold Env.blockKind; rw [hk]; rfl
  have c1 : env.kindOf x = some .local := l1
  have c2 : env.kindOf y = some .local := l2
  have c4 : env.kindOf z = some .local := l4
  have c3 : (py.line == px.line) = true := l3
  have c5 : (pz.line == px.line) = true := l5
  have f1 : ([a, b, c].all (foldedForSure 8)) = false := by rw [Bool.not_eq_true'] at p2; exact p2
  have f2 : ([a, b, c].all (constantsAlone 8)) = false := by rw [Bool.not_eq_true'] at p3; exact p3
  have e1 : ([x, y, z] : List Str).eraseDups = [x, y, z] := by simp [List.eraseDups_cons, Ne.symm ne, Ne.symm ne2, Ne.symm ne3]
  unfold swappedStores
  refine (if_neg ?_).trans ((if_neg ?_).trans ((if_neg ?_).trans ((if_neg ?_).trans ?_)))
  · simp [hb]
  · exact Bool.eq_false_iff.mp (noStars hok)
  · simp only [List.filterMap_cons, List.filterMap_nil, c1, c2, c3, c4, c5, Expr.pos, List.head?_cons, Option.map_some, Option.getD_some, beq_self_eq_true, Bool.and_self, if_true, e1, List.length_cons, List.length_nil]
    decide
  · rw [f1]; simp
  · rw [f2]
    simp only [List.filterMap_cons, List.filterMap_nil, c1, c2, c3, c4, c5, Expr.pos, List.head?_cons, Option.map_some, Option.getD_some, beq_self_eq_true, Bool.and_self, if_true]
    rfl
theorem len2 {α : Type} {l : List α} (h : l.length = 2) : ∃ a b, l = [a, b] := by
  match l, h with
  | [a, b], _ => exact ⟨a, b, rfl⟩
theorem len3 {α : Type} {l : List α} (h : l.length = 3) : ∃ a b c, l = [a, b, c] := by
  match l, h with
  | [a, b, c], _ => exact ⟨a, b, c, rfl⟩
theorem tgNames_len {N : List Str} {sc : Scope} {fn : Str → Bool} : ∀ {is : List Nat} {es : List Expr}, tgNames N sc fn is es = true → es.length = is.length
  | [], [], _ => rfl
  | [], _ :: _, h => by cases h
  | _ :: _, [], h => by cases h
  | i :: is, e :: es, h => by
    obtain ⟨_, h2⟩ := band (show (tgName _ _ i fn e && tgNames _ _ fn is es) = true from h)
    rw [List.length_cons, List.length_cons, tgNames_len h2]
theorem ss_par {is ns : List Nat} {es : Es} : SS D F W (.par is ns es) := by
  intro X G b st σ ρ B H g g' env own f S hc he Dn hD
  unfold chkS at hc
  split at hc
  · rename_i ts k p vs k2 p2 pos
    obtain ⟨hc, h4⟩ := band hc
    obtain ⟨hc, h3⟩ := band hc
    obtain ⟨h1, h2⟩ := band hc
    have lt := chkTg_lt h1
    obtain ⟨n1, nd⟩ := unpop_names h1
    unfold evalS at he
    obtain ⟨rs, g1, er, he⟩ := Out.bind_eq he
    split at he
    · rename_i hl
      cases he
      have oks := chkEs_ok h2
      have hvs : vs.length = ts.length := of_decide_eq_true h4
      have key : ∀ (σ' : L2.St) us H1, σ' = (is.zip us).foldl (fun σ p => σ.set p.1 (some p.2)) σ → σ.length = X.N.length → PostL X.w X.K ρ (BadN B ρ own ns) H rs g' us H1 → Dn.nx σ' H1 := by
        intro σ' us H1 e hlen q
        subst e
        obtain ⟨ρ', A, k1, k2, k3, k4⟩ := S.postL q
        obtain ⟨own', S3, o3⟩ := SR.putAll (is := is) (vs := us) (rs := rs) hl k2 (fun i hi => by rw [hlen]; exact lt i hi) k3
        exact hD _ H1 ρ' own' (k1.to o3 (by simp)) S3
      refine wS.len fun hlen hk => ?_
      have run := (soundEs es).1 X G vs σ ρ (BadN B ρ own ns) H g _ _ rs (S.sit ns) h2 er
      have hts := tgNames_len n1
      obtain ⟨h3a, _⟩ := band h3
      obtain ⟨h3a, _⟩ := band h3a
      obtain ⟨h3a, _⟩ := band h3a
      rcases Bool.or_eq_true_iff.mp h3a with h3a | h3a
      · have l3 := of_decide_eq_true h3a
        obtain ⟨t1, t2, rfl⟩ := len2 l3
        obtain ⟨i, j, rfl⟩ := len2 (hts.symm.trans l3)
        obtain ⟨a, c, rfl⟩ := len2 (hvs.trans l3)
        obtain ⟨m1, m2⟩ := band (show (tgName X.N X.env.scope i (fun _ => true) t1 && tgNames X.N X.env.scope (fun _ => true) [j] [t2]) = true from n1)
        obtain ⟨m2, _⟩ := band (show (tgName X.N X.env.scope j (fun _ => true) t2 && tgNames X.N X.env.scope (fun _ => true) [] []) = true from m2)
        obtain ⟨x, px, rfl, hx⟩ := nameOf m1
        obtain ⟨y, py, rfl, hy⟩ := nameOf m2
        have hij : i ≠ j := fun e => by
          subst e
          simp at nd
        obtain ⟨hw, l1, l2⟩ := swapped2 (pt := p) (kt := k) (k2 := k2) (pt2 := p2) hk h3 oks (nd_ne G.nd hx hy hij)
        refine wS.of (ps_par G.calm G.nd hx hy hij l1 l2 (wA.pa X [a, c]) hw swaps_tup) (run.mono fun us H1 q => ?_)
        have hl2 : us.length = 2 := by
          obtain ⟨_, _, _, _, _, z, _⟩ := id q
          rw [z.length, evalEs_len er h2]; rfl
        obtain ⟨v, w, rfl⟩ := len2 hl2
        exact ⟨v, w, rfl, key _ _ _ rfl hlen q⟩
      · have l3 := of_decide_eq_true h3a
        obtain ⟨t1, t2, t3, rfl⟩ := len3 l3
        obtain ⟨i, j, l, rfl⟩ := len3 (hts.symm.trans l3)
        obtain ⟨a, c, d, rfl⟩ := len3 (hvs.trans l3)
        obtain ⟨m1, m2⟩ := band (show (tgName X.N X.env.scope i (fun _ => true) t1 && tgNames X.N X.env.scope (fun _ => true) [j, l] [t2, t3]) = true from n1)
        obtain ⟨m2, m3⟩ := band (show (tgName X.N X.env.scope j (fun _ => true) t2 && tgNames X.N X.env.scope (fun _ => true) [l] [t3]) = true from m2)
        obtain ⟨m3, _⟩ := band (show (tgName X.N X.env.scope l (fun _ => true) t3 && tgNames X.N X.env.scope (fun _ => true) [] []) = true from m3)
        obtain ⟨x, px, rfl, hx⟩ := nameOf m1
        obtain ⟨y, py, rfl, hy⟩ := nameOf m2
        obtain ⟨z, pz, rfl, hz⟩ := nameOf m3
        simp only [List.nodup_cons, List.mem_cons, List.mem_singleton, List.not_mem_nil, or_false, not_or] at nd
        have hij : i ≠ j := nd.1.1
        have hil : i ≠ l := nd.1.2
        have hjl : j ≠ l := nd.2.1
        obtain ⟨hw, l1, l2, l4⟩ := swapped3 (pt := p) (kt := k) (k2 := k2) (pt2 := p2) hk h3 oks (nd_ne G.nd hx hy hij) (nd_ne G.nd hx hz hil) (nd_ne G.nd hy hz hjl)
        refine wS.of (ps_par3 G.calm G.nd hx hy hz hij hil hjl l1 l2 l4 (wA.pa X [a, c, d]) hw swaps_tup) (run.mono fun us H1 q => ?_)
        have hl2 : us.length = 3 := by
          obtain ⟨_, _, _, _, _, z, _⟩ := id q
          rw [z.length, evalEs_len er h2]; rfl
        obtain ⟨u, v, w, rfl⟩ := len3 hl2
        exact ⟨u, v, w, rfl, key _ _ _ rfl hlen q⟩
    · cases he
  · cases hc
end Fx
end

section
set_option Elab.async false
set_option linter.all false
set_option maxRecDepth 100000
/-! Fx31: statements that change what is owned. -/
namespace Fx
open PySem PySem.Spec PyProof.Rows L2
variable {D : Dec} {F : Call} {W : Nat}

section
variable {w : World} {K : PySem.W.Frag} {ρ ρ' : List Addr} {B B' : Addr → Prop} {H H' : Hp} {g g' : List T} {env : VEnv} {σ : L2.St} {own own' : Nat → List Addr} {E : List Addr}
theorem SR.keepR (S : SR w K B ρ H g env σ own E) {r : List Addr} (kp : Keep ρ H H') (hr : ∀ a ∈ r, H a = none) (cl : Cells w K (ρ ++ r) H' g') : Step ρ own H (ρ ++ r) own [] H' ∧ SR w K B (ρ ++ r) H' g' env σ own E := by
  have live : ∀ a, H a ≠ none → H' a ≠ none := fun a z => by
    by_cases c : a ∈ ρ
    · obtain ⟨vs, q⟩ := cl.live (List.mem_append.mpr (.inl c))
      rw [q]; simp
    · cases e : H a with
      | none => exact absurd e z
      | some o => rw [kp a o e c]; simp
  have ap := S.cells.apart
  refine ⟨⟨fun a o e n _ => kp a o e n, fun a xs e => kp a _ e (ap.tup a xs e), fun a o u e => kp a _ e (ap.frz a o u e), ⟨r, rfl, hr⟩, fun j a h => .inl ⟨j, h⟩, by simp, live⟩, ⟨cl, fun a z => live a (S.badT a z), S.len, fun i t f e => ?_, S.non, fun a ha => ⟨live a (S.ext a ha).1, fun z => ?_⟩⟩⟩
  · obtain ⟨v, q1, q2⟩ := S.each i t f e
    refine ⟨v, q1, q2.mv (.of kp ap (fun a ha => .inl (.inr ha)) (fun a z => ?_) ⟨r, rfl⟩)⟩
    rcases z with (z | z) | z
    · exact .inl (.inl (.inl z))
    · rcases List.mem_append.mp z with z | z
      · exact .inl (.inl (.inr z))
      · exact .inr (hr a z)
    · exact .inl (.inr z)
  · rcases z with z | z
    · exact (S.ext a ha).2 (.inl z)
    · rcases List.mem_append.mp z with z | z
      · exact (S.ext a ha).2 (.inr z)
      · exact (S.ext a ha).1 (hr a z)
theorem SR.keepE (S : SR w K B ρ H g env σ own E) (q : Base w K ρ H g' H') : ∃ ρ', Step ρ own H ρ' own [] H' ∧ SR w K B ρ' H' g' env σ own E ∧
    ∃ r, ρ' = ρ ++ r ∧ Keep ρ H H' ∧ ∀ a ∈ r, H a = none := by
  obtain ⟨r, kp, hr, cl⟩ := q
  obtain ⟨a, b⟩ := S.keepR kp hr cl
  exact ⟨ρ ++ r, a, b, r, rfl, kp, hr⟩
theorem Step.trans2 {ρ0 ρ2 : List Addr} {own0 own1 own2 : Nat → List Addr} {H0 H2 : Hp} {E3 : List Addr} (a : Step ρ0 own0 H0 ρ own1 E H) (b : Step ρ own1 H ρ2 own2 [] H2) (h : ∀ x ∈ E3, x ∈ E) : Step ρ0 own0 H0 ρ2 own2 E3 H2 := by
  have c := a.trans b
  exact ⟨c.keep, c.tups, c.frzs, c.more, c.owns, fun x hx => a.ext x (h x hx), c.live⟩
/-- what slot i owns is changed -/
theorem SR.change (S : SR w K B ρ H g env σ own E) {ρ0 : List Addr} {own0 : Nat → List Addr} {H0 : Hp} (st : Step ρ0 own0 H0 ρ own E H) {i : Nat} {t : T} {f : Nat} {v : V} {A' : List Addr} {a : Addr} {o o' : HO} (hi : i < env.length) (hσ : σ[i]? = some (some v)) (ha : a ∈ own i) (e : H a = some o) (n1 : ∀ xs, o ≠ .tup xs) (n2 : ∀ ob u, o ≠ .frz ob u) (sub : ∀ x ∈ A', x ∈ own i ∨ x ∈ E)
    (new : RF w K ρ (fun x => (B x ∨ x ∈ ρ) ∨ ∃ j, j ≠ i ∧ x ∈ own j) (upd H a o') v t f A') : SR w K B ρ (upd H a o') g (env.set i (some (t, f))) σ (fun j => if j = i then A' else own j) [] ∧ Step ρ0 own0 H0 ρ (fun j => if j = i then A' else own j) [] (upd H a o') := by
  have aρ : a ∉ ρ := fun z => (S.live i a ha).2 (.inr z)
  have live : ∀ x, H x ≠ none → upd H a o' x ≠ none := fun x z => by
    by_cases c : x = a
    · rw [c, upd_same]; simp
    · rw [upd_ne c]; exact z
  have tp : ∀ x xs, H x = some (.tup xs) → upd H a o' x = some (.tup xs) := fun x xs q => by
    by_cases c : x = a
    · rw [c, e] at q
      exact absurd (Option.some.inj q) (n1 xs)
    · rw [upd_ne c]; exact q
  have fz : ∀ x ob u, H x = some (.frz ob u) → upd H a o' x = some (.frz ob u) := fun x ob u q => by
    by_cases c : x = a
    · rw [c, e] at q
      exact absurd (Option.some.inj q) (n2 ob u)
    · rw [upd_ne c]; exact q
  refine ⟨⟨S.cells.mv (fun x hx u q => by rw [upd_ne (show x ≠ a from fun c => aρ (c ▸ hx))]; exact q) tp fz, fun x z => live x (S.badT x z), by simp [S.len], fun j u f' ee => ?_, fun j ee => ?_, by simp⟩, ⟨fun x u q m1 m2 => ?_, fun x xs q => tp x xs (st.tups x xs q), fun x ob u q => fz x ob u (st.frzs x ob u q), st.more, fun j x hx => ?_, by simp, fun x z => live x (st.live x z)⟩⟩
  · by_cases c : j = i
    · subst c
      rw [List.getD_eq_getElem?_getD, List.getElem?_set_self hi] at ee
      cases ee
      refine ⟨v, hσ, ?_⟩
      rw [if_pos rfl]
      refine new.weakB fun x z => ?_
      rcases z with z | ⟨k, nk, z⟩ | z
      · exact .inl z
      · rw [if_neg nk] at z
        exact .inr ⟨k, nk, z⟩
      · simp at z
    · rw [List.getD_eq_getElem?_getD, List.getElem?_set_ne (Ne.symm c), ← List.getD_eq_getElem?_getD] at ee
      obtain ⟨v', q1, q2⟩ := S.each j u f' ee
      refine ⟨v', q1, ?_⟩
      rw [if_neg c]
      refine (q2.mv (Mv.updB (.inr (.inl ⟨i, Ne.symm c, ha⟩)) e n1 n2)).weakB fun x z => ?_
      rcases z with z | ⟨k, nk, z⟩ | z
      · exact .inl z
      · by_cases d : k = i
        · rw [if_pos d] at z
          rcases sub x z with z | z
          · exact .inr (.inl ⟨i, Ne.symm c, z⟩)
          · exact .inr (.inr z)
        · rw [if_neg d] at z
          exact .inr (.inl ⟨k, nk, z⟩)
      · simp at z
  · by_cases c : j = i
    · subst c
      rw [List.getD_eq_getElem?_getD, List.getElem?_set_self hi] at ee
      cases ee
    · rw [List.getD_eq_getElem?_getD, List.getElem?_set_ne (Ne.symm c), ← List.getD_eq_getElem?_getD] at ee
      rw [if_neg c]
      exact S.non j ee
  · have := st.keep x u q m1 m2
    by_cases c : x = a
    · rcases st.owns i a ha with ⟨k, z⟩ | z
      · exact absurd (c ▸ z) (m2 k)
      · rw [c, z] at q; cases q
    · rw [upd_ne c]; exact this
  · by_cases c : j = i
    · rw [if_pos c] at hx
      rcases sub x hx with z | z
      · exact st.owns i x z
      · exact st.ext x z
    · rw [if_neg c] at hx
      exact st.owns j x hx
end
/-- the receiver's method append -/
theorem pe_append {X : Cx} {o e' : Expr} {apos pos : Pos} {to : TE} {t : TA} (ho : PE X o to) (ha : PA X [e'] t) (k1 : okO o = true) (k2 : okE e' = true) (k3 : (apos.endLine == pos.line) = true) : PE X (.Call (.Attribute o "append" apos) [e'] [] pos) (tBM X.K "list" rAppend to t) :=
  pe_bm PySem.F.plainAttrs_list PySem.F.slot_list_append PySem.F.type_list_append (fun pins s σ H x xs v us Q I r1 r2 q => mt_append pins s σ H x xs v us Q I r1 r2 q) ho ha (base_ok k1) (few1 k2) k3 (starEach_ok k2) rfl
theorem sizeL_lt {n : Nat} (h : n < 1000000) : n < sizeLine := by
  rw [← szL]
  have : sizeL = 16777216 := rfl
  omega
theorem ss_app {i : Nat} {ns : List Nat} {e : E} : SS D F W (.app i ns e) := by
  intro X G b st σ ρ B H g g' env own f S hc he Dn hD
  unfold chkS at hc
  split at hc
  · rename_i o x apos e' pos pos2
    obtain ⟨hc, h4⟩ := band hc
    obtain ⟨hc, h3⟩ := band hc
    obtain ⟨h1, h2⟩ := band hc
    have ex := of_decide_eq_true h1
    subst ex
    obtain ⟨x, p, rfl, hN, hv, d1, d2⟩ := var_of G h2
    unfold evalS at he
    obtain ⟨r, g1, er, he⟩ := Out.bind_eq he
    split at he
    · rename_i ts f0 hr
      split at he
      · cases he
      · rename_i lim
        cases he
        -- the variable's own place ahead of the argument
        have hv0 : ∃ v, σ[i]? = some (some v) ∧ ∃ a ws, v = .ref a ∧ H a = some (.lst ws) := by
          have hr' := hr
          rw [after_at] at hr'
          have : ∃ f1, env.getD i Option.none = some (.lst ts, f1) := by
            split at hr'
            · exact ⟨_, hr'⟩
            · split at hr'
              · obtain ⟨pp, e1, e2⟩ := Option.map_eq_some_iff.mp hr'
                have e3 : pp.1 = .lst ts := congrArg Prod.fst e2
                exact ⟨pp.2, by rw [e1, ← e3]⟩
              · exact ⟨_, hr'⟩
          obtain ⟨f1, e1⟩ := this
          obtain ⟨v, q1, q2⟩ := S.each i _ _ e1
          obtain ⟨a, ws, q3, _, q4, _⟩ := q2.sh.lst_inv
          exact ⟨v, q1, a, ws, q3, q4⟩
        obtain ⟨v, q1, a, ws0, rfl, q3⟩ := hv0
        refine wS.of (ps_expr (pe_append (pe_var hN hv d1 d2) (wA.pa X [e']) rfl (okE_chk h3) h4) rfl) ⟨.ref a, q1, .inl ⟨rfl, ws0, SqL.of q3⟩, ?_⟩
        have run := ((soundE e).1 X G e' σ ρ (BadN B ρ own ns) H g _ _ r.1 r.2 (S.sit ns) h3 er)
        refine wA.of (pa_cons (wE.pe X e') pa_nil (starEach_ok (okE_chk h3))) (run.mono fun u H1 q => ?_)
        obtain ⟨ρ', A, st1, S1, k3, k4⟩ := S.post q
        obtain ⟨v', q1', q2'⟩ := S1.each i _ _ hr
        rw [q1] at q1'
        cases q1'
        have hi : i < (after ns (norm r).2 env).length := by
          rw [S1.len]
          exact (List.getElem?_eq_some_iff.mp q1).1
        have nf0 : f0 ≠ 0 := fun e => lim (.inl e)
        have few : ts.length < 1000000 := by
          rcases Nat.lt_or_ge ts.length 1000000 with z | z
          · exact z
          · exact absurd (.inr z) lim
        have fin : ∀ ws A' fl, H1 a = some (.lst ws) → ws.length = ts.length → a ∈ ownAfter ns (norm r).2 own i → (∀ x ∈ A', x ∈ ownAfter ns (norm r).2 own i ∨ x ∈ A) →
            RF X.w X.K ρ' (fun x => (B x ∨ x ∈ ρ') ∨ ∃ j, j ≠ i ∧ x ∈ ownAfter ns (norm r).2 own j) (upd H1 a (.lst (ws ++ [u]))) (.ref a) (.lst (ts ++ [r.1])) fl A' → fl = fl2 f0 (norm r).2 → rAppend (.ref a) [u] H1 fun _ H2 => Dn.nx σ H2 := by
          intro ws A' fl e1 el ha sub new efl
          subst efl
          refine ⟨a, ws, u, rfl, rfl, e1, by rw [el]; exact sizeL_lt few, ?_⟩
          obtain ⟨S2, st2⟩ := S1.change st1 (o' := .lst (ws ++ [u])) hi q1 ha e1 (fun _ z => nomatch z) (fun _ _ z => nomatch z) sub new
          exact hD σ _ ρ' _ st2 S2
        rcases q2' with ⟨z, _⟩ | ⟨z, a1, oA, ea, nb, top⟩ | ⟨z, ro, nd, nb⟩
        · exact absurd z nf0
        · cases ea
          have ha1 : a ∈ ownAfter ns (norm r).2 own i := by rw [oA]; simp
          generalize hd : T.lst ts = d at top
          cases top with
          | lst e1 e2 =>
            cases hd
            rename_i ws
            have mv : Mv ρ' ρ' (fun x => ((B x ∨ x ∈ ρ') ∨ ∃ j, j ≠ i ∧ x ∈ ownAfter ns (norm r).2 own j) ∨ x = a) (fun x => ((B x ∨ x ∈ ρ') ∨ ∃ j, j ≠ i ∧ x ∈ ownAfter ns (norm r).2 own j) ∨ x = a) H1 (upd H1 a (.lst (ws ++ [u]))) := Mv.updB (.inr rfl) e1 (fun _ z => nomatch z) fun _ _ z => nomatch z
            have w1 := (e2.weak (B' := fun x => ((B x ∨ x ∈ ρ') ∨ ∃ j, j ≠ i ∧ x ∈ ownAfter ns (norm r).2 own j) ∨ x = a) fun x y => by
              rcases y with (y | y) | y
              · exact .inl (.inl y)
              · exact .inl (.inr (.inl y))
              · exact .inr y).mv mv (by simp)
            have w2 := (k3.sh.weak (B' := fun x => ((B x ∨ x ∈ ρ') ∨ ∃ j, j ≠ i ∧ x ∈ ownAfter ns (norm r).2 own j) ∨ x = a) fun x y => by
              rcases y with (y | ⟨j, _, y⟩) | y
              · exact .inl y
              · exact .inr ⟨j, y⟩
              · exact .inr ⟨i, y ▸ ha1⟩).mv mv (by simp)
            refine fin _ [a] 1 e1 e2.length ha1 (fun x hx => .inl (by rw [oA]; exact hx)) (.inr (.inl ⟨rfl, a, rfl, rfl, fun y => nb (y.imp id .inl), .lst upd_same (w1.app (.cons (A := []) (A' := []) w2 .nil))⟩)) ?_
            rw [z]; rfl
          | dicS _ _ => cases hd
          | dicN _ _ _ _ _ _ => cases hd
        · generalize hO : ownAfter ns (norm r).2 own i = O at ro nd nb
          generalize hV : V.ref a = V0 at ro
          cases ro with
          | lst2 e1 e2 =>
            rename_i a0 ws A1
            cases hV
            have ha1 : a ∈ ownAfter ns (norm r).2 own i := by rw [hO]; simp
            have aH : H a ≠ none := (S.live i a (own_sub ha1)).1
            obtain ⟨nd1, nd2⟩ := List.nodup_cons.mp nd
            have aA : a ∉ A := fun y => aH (k4 a y)
            have dis : ∀ x ∈ A1, x ∉ A := fun x hx y => (S.live i x (own_sub (show x ∈ ownAfter ns (norm r).2 own i by rw [hO]; simp [hx]))).1 (k4 x y)
            have nbn : ∀ x ∈ a :: A1, ¬ ((B x ∨ x ∈ ρ') ∨ ∃ j, j ≠ i ∧ x ∈ ownAfter ns (norm r).2 own j) := fun x hx y => nb x hx (y.imp id .inl)
            by_cases f2 : (norm r).2 = 2
            · have mva : Mv ρ' ρ' (fun x => x = a) (fun x => x = a) H1 (upd H1 a (.lst (ws ++ [u]))) := Mv.updB rfl e1 (fun _ z => nomatch z) fun _ _ z => nomatch z
              have w1 := ((e2.ownAny (B' := fun x => x = a)).mv mva fun x hx y => nd1 (y ▸ hx)).ownAny (B' := fun x => (B x ∨ x ∈ ρ') ∨ ∃ j, j ≠ i ∧ x ∈ ownAfter ns (norm r).2 own j)
              have k5 := k3
              rw [f2] at k5
              have w2 := ((k5.own2.ownAny (B' := fun x => x = a)).mv mva fun x hx y => aA (y ▸ hx)).ownAny (B' := fun x => (B x ∨ x ∈ ρ') ∨ ∃ j, j ≠ i ∧ x ∈ ownAfter ns (norm r).2 own j)
              refine fin ws (a :: (A1 ++ (A ++ []))) 2 e1 e2.length ha1 (fun x hx => ?_) (.inr (.inr ⟨rfl, .lst2 upd_same (w1.app (.cons w2 .nil)), ?_, fun x hx => ?_⟩)) ?_
              · rw [hO, List.append_nil] at *
                rcases List.mem_cons.mp hx with rfl | hx
                · exact .inl (by simp)
                · rcases List.mem_append.mp hx with y | y
                  · exact .inl (by simp [y])
                  · exact .inr y
              · rw [List.append_nil]
                refine List.nodup_cons.mpr ⟨fun y => ?_, List.nodup_append.mpr ⟨nd2, k3.nodup, fun x hx y hy e => dis x hx (e ▸ hy)⟩⟩
                rcases List.mem_append.mp y with y | y
                · exact nd1 y
                · exact aA y
              · rw [List.append_nil] at hx
                rcases List.mem_cons.mp hx with rfl | hx
                · exact nbn _ (by simp)
                · rcases List.mem_append.mp hx with y | y
                  · exact nbn x (by simp [y])
                  · exact fun q => k3.nb x y (q.imp id fun ⟨j, _, q⟩ => ⟨j, q⟩)
              · rw [z, f2]; rfl
            · have mv : Mv ρ' ρ' (fun x => ((B x ∨ x ∈ ρ') ∨ ∃ j, j ≠ i ∧ x ∈ ownAfter ns (norm r).2 own j) ∨ x = a) (fun x => ((B x ∨ x ∈ ρ') ∨ ∃ j, j ≠ i ∧ x ∈ ownAfter ns (norm r).2 own j) ∨ x = a) H1 (upd H1 a (.lst (ws ++ [u]))) := Mv.updB (.inr rfl) e1 (fun _ z => nomatch z) fun _ _ z => nomatch z
              have w1 := ((e2.ownAny (B' := fun x => ((B x ∨ x ∈ ρ') ∨ ∃ j, j ≠ i ∧ x ∈ ownAfter ns (norm r).2 own j) ∨ x = a)).sh fun x hx y => by
                rcases y with y | y
                · exact nbn x (by simp [hx]) y
                · exact nd1 (y ▸ hx)).mv mv (by simp)
              have w2 := (k3.sh.weak (B' := fun x => ((B x ∨ x ∈ ρ') ∨ ∃ j, j ≠ i ∧ x ∈ ownAfter ns (norm r).2 own j) ∨ x = a) fun x y => by
                rcases y with (y | ⟨j, _, y⟩) | y
                · exact .inl y
                · exact .inr ⟨j, y⟩
                · exact .inr ⟨i, y ▸ ha1⟩).mv mv (by simp)
              refine fin ws [a] 1 e1 e2.length ha1 (fun x hx => .inl (by rw [List.mem_singleton.mp hx]; exact ha1)) (.inr (.inl ⟨rfl, a, rfl, rfl, nbn a (by simp), .lst upd_same (w1.app (.cons (A := []) (A' := []) w2 .nil))⟩)) ?_
              unfold fl2
              rw [if_neg fun y => f2 y.2]
    · cases he
  · cases hc
end Fx
end

section
set_option Elab.async false
set_option linter.all false
set_option maxRecDepth 100000
/-! Fx32: pop, a cell made, append to what is dropped. -/
namespace Fx
open PySem PySem.Spec PyProof.Rows L2
variable {D : Dec} {F : Call} {W : Nat}

theorem pe_popL {X : Cx} {o : Expr} {apos pos : Pos} {to : TE} (ho : PE X o to) (k1 : okO o = true) (k3 : (apos.endLine == pos.line) = true) : PE X (.Call (.Attribute o "pop" apos) [] [] pos) (tBM0 X.K "list" rPop to) :=
  pe_bm0 PySem.F.plainAttrs_list PySem.F.slot_list_pop PySem.F.type_list_pop (fun pins s σ H x xs v us Q I r1 r2 q => mt_pop pins s σ H x xs v us Q I r1 r2 q) ho (base_ok k1) k3
theorem last_snoc {α : Type} {l : List α} {a : α} (h : l.getLast? = some a) : l = l.dropLast ++ [a] := by
  obtain ⟨ys, rfl⟩ := List.getLast?_eq_some_iff.mp h
  rw [List.dropLast_concat]
theorem Rs.snoc2 {w : World} {K : PySem.W.Frag} {ρ : List Addr} {B : Addr → Prop} {H : Hp} {o : Bool} {vs : List V} {ts : List T} {A : List Addr} {t : T} (h : Rs w K ρ B H o vs ts A) (e : ts.getLast? = some t) :
    ∃ v A1 A2, vs[vs.length - 1]? = some v ∧ Rs w K ρ B H o vs.dropLast ts.dropLast A1 ∧ R w K ρ B H o v t A2 ∧ A = A1 ++ A2 := by
  have e1 := last_snoc e
  have hl := h.length
  have ne : vs ≠ [] := fun z => by
    rw [z] at hl
    cases ts with
    | nil => simp at e
    | cons _ _ => simp at hl
  have e2 : vs = vs.dropLast ++ [vs.getLast ne] := (List.dropLast_concat_getLast ne).symm
  have h2 := h
  rw [e1, e2] at h2
  obtain ⟨A1, A2, q1, q2, q3⟩ := h2.snoc_inv
  refine ⟨vs.getLast ne, A1, A2, ?_, q2, q3, q1⟩
  rw [List.getLast_eq_getElem ne, List.getElem?_eq_getElem]
theorem ss_pop {j i : Nat} : SS D F W (.pop j i) := by
  intro X G b st σ ρ B H g g' env own f S hc he Dn hD
  unfold chkS at hc
  split at hc
  · rename_i tg o x apos pos pos2
    obtain ⟨hc, h4⟩ := band hc
    obtain ⟨hc, h3⟩ := band hc
    obtain ⟨h1, h2⟩ := band hc
    have ex := of_decide_eq_true h1
    subst ex
    obtain ⟨x, p, rfl, hN, hv, d1, d2⟩ := var_of G h3
    obtain ⟨y, py, rfl, hNj, hxj, ltj⟩ := tgOne G b h2
    unfold evalS at he
    split at he
    · rename_i ts f0 hr
      split at he
      · cases he
      · rename_i nf0
        split at he
        · rename_i t ht
          cases he
          obtain ⟨v, q1, q2⟩ := S.each i _ _ hr
          have hi : i < env.length := by
            rw [S.len]
            exact (List.getElem?_eq_some_iff.mp q1).1
          refine wS.len fun hlen hk => ?_
          -- the list's place
          have key : ∃ a ws, v = .ref a ∧ H a = some (.lst ws) ∧ a ∈ own i ∧ Rs X.w X.K ρ (fun x => ((B x ∨ x ∈ ρ) ∨ ∃ k, k ≠ i ∧ x ∈ own k) ∨ x = a) H false ws ts [] ∧ ¬ ((B a ∨ a ∈ ρ) ∨ ∃ k, k ≠ i ∧ a ∈ own k) := by
            rcases q2 with ⟨z, _⟩ | ⟨z, a, oA, rfl, nb, top⟩ | ⟨z, ro, nd, nb⟩
            · exact absurd z nf0
            · generalize hd : T.lst ts = d at top
              cases top with
              | lst e1 e2 =>
                cases hd
                refine ⟨a, _, rfl, e1, by rw [oA]; simp, e2.weak fun x y => ?_, fun y => nb (y.imp id .inl)⟩
                rcases y with (y | y) | y
                · exact .inl (.inl y)
                · exact .inl (.inr (.inl y))
                · exact .inr y
              | dicS _ _ => cases hd
              | dicN _ _ _ _ _ _ => cases hd
            · generalize hO : own i = O at ro nd nb
              cases ro with
              | lst2 e1 e2 =>
                rename_i a ws A1
                obtain ⟨nd1, nd2⟩ := List.nodup_cons.mp nd
                refine ⟨a, ws, rfl, e1, by simp, (e2.ownAny (B' := fun x => ((B x ∨ x ∈ ρ) ∨ ∃ k, k ≠ i ∧ x ∈ own k) ∨ x = a)).sh fun x hx y => ?_, fun y => nb a (by simp) (y.imp id .inl)⟩
                rcases y with y | y
                · exact nb x (by simp [hx]) (y.imp id .inl)
                · exact nd1 (y ▸ hx)
          obtain ⟨a, ws, rfl, e1, ha, rs, na⟩ := key
          obtain ⟨u, A1, A2, u1, u2, u3, u4⟩ := rs.snoc2 ht
          have := List.append_eq_nil_iff.mp u4.symm
          obtain ⟨rfl, rfl⟩ := this
          refine wS.of (ps_set G.nd hNj hxj (pe_popL (pe_var hN hv d1 d2) rfl h4) rfl (.inl (b.fn y))) ⟨.ref a, q1, .inl ⟨rfl, ws, SqL.of e1⟩, a, ws, u, rfl, rfl, e1, u1, ?_⟩
          have mv : Mv ρ ρ (fun x => ((B x ∨ x ∈ ρ) ∨ ∃ k, k ≠ i ∧ x ∈ own k) ∨ x = a) (fun x => ((B x ∨ x ∈ ρ) ∨ ∃ k, k ≠ i ∧ x ∈ own k) ∨ x = a) H (upd H a (.lst ws.dropLast)) := Mv.updB (.inr rfl) e1 (fun _ z => nomatch z) fun _ _ z => nomatch z
          obtain ⟨S2, st2⟩ := S.change (Step.refl) (o' := .lst ws.dropLast) (A' := [a]) (t := .lst ts.dropLast) (f := 1) hi q1 ha e1 (fun _ z => nomatch z) (fun _ _ z => nomatch z) (fun x hx => .inl (by rw [List.mem_singleton.mp hx]; exact ha))
            (.inr (.inl ⟨rfl, a, rfl, rfl, na, .lst upd_same (u2.mv mv (by simp))⟩))
          have u5 : RF X.w X.K ρ (fun x => ((B x ∨ x ∈ ρ) ∨ ∃ k, x ∈ (fun j => if j = i then [a] else own j) k) ∨ x ∈ ([] : List Addr)) (upd H a (.lst ws.dropLast)) u (norm (t, 0)).1 (norm (t, 0)).2 [] := by
            refine ((u3.mv mv (by simp)).rf0).weakB fun x y => ?_
            rcases y with (y | ⟨k, y⟩) | y
            · exact .inl (.inl y)
            · simp only at y
              by_cases c : k = i
              · rw [if_pos c] at y
                exact .inr (List.mem_singleton.mp y)
              · rw [if_neg c] at y
                exact .inl (.inr ⟨k, c, y⟩)
            · simp at y
          have S3 := S2.store (A := []) (E2 := []) (i := j) (v := u) (t := (norm (t, 0)).1) (f := (norm (t, 0)).2) (by simp) (by rw [hlen]; exact ltj) u5
          refine hD _ _ ρ _ (st2.to (fun k x hx => ?_) (by simp)) S3
          by_cases c : k = j
          · rw [if_pos c] at hx
            simp at hx
          · rw [if_neg c] at hx
            exact .inl ⟨k, hx⟩
        · cases he
    · cases he
  · cases hc
section
variable {w : World} {K : PySem.W.Frag} {ρ : List Addr} {B : Addr → Prop} {H : Hp}
mutual
/-- plain flat things need no cells -/
theorem R.flatP : ∀ {o : Bool} {v : V} {t : T} {A : List Addr}, R w K ρ B H o v t A → t.flat = true → t.plain = true → R w K [] (fun _ => True) H true v t []
  | _, _, _, _, .non, _, _ => .non
  | _, _, _, _, .bl b, _, _ => .bl b
  | _, _, _, _, .int i, _, _ => .int i
  | _, _, _, _, .str s h, _, _ => .str s h
  | _, _, _, _, .tup h1 h2, hf, hp => .tup h1 (Rs.flatP h2 hf hp)
  | _, _, _, _, .lst0 h1 h2 h3, hf, _ => by cases hf
  | _, _, _, _, .lst2 h1 h2, hf, _ => by cases hf
  | _, _, _, _, .fro h1 h2, hf, _ => by cases hf
  | _, _, _, _, .cell h, _, hp => by cases hp
  | _, _, _, _, .dicS h1 h2 h3, hf, _ => by cases hf
  | _, _, _, _, .dicN h1 h2 h3 h4 hk h5 h6, hf, _ => by cases hf
theorem Rs.flatP : ∀ {o : Bool} {vs : List V} {ts : List T} {A : List Addr}, Rs w K ρ B H o vs ts A → T.flats ts = true → T.plains ts = true → Rs w K [] (fun _ => True) H true vs ts []
  | _, _, _, _, .nil, _, _ => .nil
  | _, _, _, _, .cons h1 h2, hf, hp => by
    obtain ⟨f1, f2⟩ := band (show (T.flat _ && T.flats _) = true from hf)
    obtain ⟨p1, p2⟩ := band (show (T.plain _ && T.plains _) = true from hp)
    exact .cons (A := []) (A' := []) (R.flatP h1 f1 p1) (Rs.flatP h2 f2 p2)
end
end
theorem ss_cel {i : Nat} {ns : List Nat} {e : E} : SS D F W (.cel i ns e) := by
  intro X G b st σ ρ B H g g' env own f S hc he Dn hD
  unfold chkS at hc
  split at hc
  · rename_i tg e' pos
    obtain ⟨hc, h3⟩ := band hc
    obtain ⟨h1, h2⟩ := band hc
    obtain ⟨x, p, rfl, hN, hx, hlt⟩ := tgOne G b h1
    unfold evalS at he
    obtain ⟨r, g1, er, he⟩ := Out.bind_eq he
    obtain ⟨rt, rf⟩ := r
    split at he
    · rename_i ts f0 hr
      cases hr
      split at he
      · cases he
      · rename_i nb0
        cases he
        refine wS.len fun hlen hk => ?_
        have hi : i < σ.length := by rw [hlen]; exact hlt
        refine wS.of (ps_set G.nd hN hx (wE.pe X e') (swaps_pure (okE_chk h2) (by simpa using h3)) (.inl (b.fn x))) (((soundE e).1 X G e' σ ρ (BadN B ρ own ns) H g _ _ _ _ (S.sit ns) h2 er).mono fun v H1 q => ?_)
        obtain ⟨ρ', A, st1, S1, k3, k4⟩ := S.post (r := (.lst ts, rf)) q
        have en : (norm (T.lst ts, rf)).2 = rf := rfl
        rw [en] at st1 S1 k3
        have fl : T.flats ts = true := by
          cases q : T.flats ts with
          | true => rfl
          | false => exact absurd (.inr (.inl q)) nb0
        have pl : T.plains ts = true := by
          cases q : T.plains ts with
          | true => rfl
          | false => exact absurd (.inr (.inr q)) nb0
        have key : ∃ a ws, v = .ref a ∧ H1 a = some (.lst ws) ∧ Rs X.w X.K [] (fun _ => True) H1 true ws ts [] ∧ a ∈ A := by
          rcases k3 with ⟨z, _⟩ | ⟨z, a, oA, rfl, nb, top⟩ | ⟨z, ro, nd, nb⟩
          · exact absurd (.inl z) nb0
          · generalize hd : T.lst ts = d at top
            cases top with
            | lst e1 e2 =>
              cases hd
              exact ⟨a, _, rfl, e1, e2.flatP fl pl, by rw [oA]; simp⟩
            | dicS _ _ => cases hd
            | dicN _ _ _ _ _ _ => cases hd
          · cases ro with
            | lst2 e1 e2 => exact ⟨_, _, rfl, e1, e2.flatP fl pl, by simp⟩
        obtain ⟨a, ws, rfl, e1, rs, aA⟩ := key
        have aρ : a ∉ ρ' := fun z => (S1.ext a aA).2 (.inr z)
        have hlen2 := S1.cells.len
        obtain ⟨rr, hrr, frr⟩ := st1.more
        refine hD _ H1 (ρ' ++ [a]) (fun j => if j = i then [] else ownAfter ns rf own j) ⟨st1.keep, st1.tups, st1.frzs, ⟨rr ++ [a], by rw [hrr, List.append_assoc], fun x hx => ?_⟩, fun j x hx => ?_, by simp, st1.live⟩ ⟨⟨by simp [hlen2], ?_, fun n x t hn ht => ?_⟩, S1.badT, by simp [S1.len], fun j u f' ee => ?_, fun j ee => ?_, by simp⟩
        · rcases List.mem_append.mp hx with z | z
          · exact frr x z
          · rw [List.mem_singleton.mp z]; exact k4 a aA
        · by_cases c : j = i
          · rw [if_pos c] at hx; simp at hx
          · rw [if_neg c] at hx
            exact st1.owns j x hx
        · exact List.nodup_append.mpr ⟨S1.cells.nd, by simp, fun x hx y hy e => aρ (by rw [List.mem_singleton.mp hy] at e; exact e ▸ hx)⟩
        · by_cases c : n < ρ'.length
          · rw [List.getElem?_append_left c] at hn
            rw [List.getElem?_append_left (by rw [← hlen2]; exact c)] at ht
            exact S1.cells.at_ n x t hn ht
          · have hn2 := (List.getElem?_eq_some_iff.mp hn).1
            rw [List.length_append, List.length_singleton] at hn2
            have e0 : n = ρ'.length := by omega
            subst e0
            rw [List.getElem?_append_right (Nat.le_refl _), Nat.sub_self] at hn
            cases hn
            rw [hlen2, List.getElem?_append_right (Nat.le_refl _), Nat.sub_self] at ht
            cases ht
            exact ⟨ws, ts, rfl, e1, rs, fl⟩
        · by_cases c : j = i
          · subst c
            rw [List.getD_eq_getElem?_getD, List.getElem?_set_self (by rw [S1.len]; exact hi)] at ee
            cases ee
            refine ⟨.ref a, List.getElem?_set_self hi, .inl ⟨rfl, if_pos rfl, .cell ?_⟩⟩
            rw [← hlen2, List.getElem?_append_right (Nat.le_refl _), Nat.sub_self]
            rfl
          · rw [List.getD_eq_getElem?_getD, List.getElem?_set_ne (Ne.symm c), ← List.getD_eq_getElem?_getD] at ee
            obtain ⟨v', q1, q2⟩ := S1.each j u f' ee
            refine ⟨v', by rw [List.getElem?_set_ne (Ne.symm c)]; exact q1, ?_⟩
            rw [if_neg c]
            refine q2.mv ⟨fun _ _ e _ => e, fun _ _ e => e, fun _ _ _ e => e, fun x z => .inl ?_, ⟨[a], rfl⟩⟩
            rcases z with (z | z) | ⟨k, nk, z⟩ | z
            · exact .inl (.inl z)
            · rcases List.mem_append.mp z with z | z
              · exact .inl (.inr z)
              · rw [List.mem_singleton.mp z]; exact .inr (.inr aA)
            · by_cases d : k = i
              · rw [if_pos d] at z; simp at z
              · rw [if_neg d] at z
                exact .inr (.inl ⟨k, nk, z⟩)
            · simp at z
        · by_cases c : j = i
          · rw [if_pos c]
          · rw [List.getD_eq_getElem?_getD, List.getElem?_set_ne (Ne.symm c), ← List.getD_eq_getElem?_getD] at ee
            rw [if_neg c]
            exact S1.non j ee
    · cases he
  · cases hc
end Fx
end

section
set_option Elab.async false
set_option linter.all false
set_option maxRecDepth 100000
/-! Fx33: x[k] = e; append to a dropped list. -/
namespace Fx
open PySem PySem.Spec PyProof.Rows L2
variable {D : Dec} {F : Call} {W : Nat}

theorem ss_appE {ns : List Nat} {e c : E} : SS D F W (.appE ns e c) := by
  intro X G b st σ ρ B H g g' env own f S hc he Dn hD
  unfold chkS at hc
  split at hc
  · rename_i o x apos c' pos pos2
    obtain ⟨hc, h5⟩ := band hc
    obtain ⟨hc, h4⟩ := band hc
    obtain ⟨hc, h3⟩ := band hc
    obtain ⟨h1, h2⟩ := band hc
    have ex := of_decide_eq_true h1
    subst ex
    unfold evalS at he
    obtain ⟨r, g1, er, he⟩ := Out.bind_eq he
    obtain ⟨k, g2, ek, he⟩ := Out.bind_eq he
    split at he
    · rename_i hg
      cases he
      obtain ⟨l1, l2⟩ := band hg
      obtain ⟨rt, rf⟩ := r
      have key0 : ∃ ts, rt = .lst ts ∧ ts.length < 1000000 := by
        cases rt <;> first | (cases l1; done) | skip
        exact ⟨_, rfl, of_decide_eq_true l1⟩
      obtain ⟨ts, rfl, few⟩ := key0
      have nf0 : rf ≠ 0 := by simpa using l2
      refine wS.of (ps_expr (pe_append (wE.pe X o) (wA.pa X [c']) h3 (okE_chk h4) h5) rfl) (((soundE e).1 X G o σ ρ (BadN B ρ own ns) H g _ _ _ _ (S.sit ns) h2 er).mono fun v H1 q => ?_)
      obtain ⟨r1, A, kp, hr, cl, h, hA⟩ := q
      have key : ∃ a ws, v = .ref a ∧ H1 a = some (.lst ws) ∧ a ∈ A ∧ ws.length = ts.length := by
        rcases h with ⟨z, _⟩ | ⟨z, a, oA, rfl, nb, top⟩ | ⟨z, ro, nd, nb⟩
        · exact absurd z nf0
        · generalize hd : T.lst ts = d at top
          cases top with
          | lst e1 e2 =>
            cases hd
            exact ⟨a, _, rfl, e1, by rw [oA]; simp, e2.length⟩
          | dicS _ _ => cases hd
          | dicN _ _ _ _ _ _ => cases hd
        · generalize hd : T.lst ts = d at ro
          cases ro with
          | lst2 e1 e2 => cases hd; exact ⟨_, _, rfl, e1, by simp, e2.length⟩
          | _ => cases hd
      obtain ⟨a, ws, rfl, e1, aA, wl⟩ := key
      refine ⟨.inl ⟨rfl, ws, SqL.of e1⟩, ?_⟩
      have S1 := (S.sit ns).on kp hr cl hA h.there
      have S2 : Sit X.w X.K (ρ ++ r1) (fun x => BadN B ρ own ns x ∨ x ∈ r1 ∨ x ∈ A) H1 g1 [] σ := ⟨S1.cells, S1.bad, S1.badT, fun i t e => by simp at e⟩
      refine wA.of (pa_cons (wE.pe X c') pa_nil (starEach_ok (okE_chk h4))) (((soundE c).1 X G c' σ _ _ H1 g1 _ _ k.1 k.2 S2 h4 ek).mono fun u H2 q2 => ?_)
      obtain ⟨r2, A2, kp2, hr2, cl2, h22, hA2⟩ := q2
      have aρ : a ∉ ρ ++ r1 := fun z => by
        have nb := h.nb a aA
        rcases List.mem_append.mp z with z | z
        · exact nb (.inl (.inl (.inr z)))
        · exact nb (.inr z)
      have e2 : H2 a = some (.lst ws) := kp2 a _ e1 aρ
      refine ⟨a, ws, u, rfl, rfl, e2, by rw [wl]; exact sizeL_lt few, ?_⟩
      have ar2 : a ∉ ρ ++ r1 ++ r2 := fun z => by
        rcases List.mem_append.mp z with z | z
        · exact aρ z
        · rw [hr2 a z] at e1; cases e1
      have bs : Base X.w X.K ρ H g' (upd H2 a (.lst (ws ++ [u]))) := by
        refine ⟨r1 ++ r2, fun x o' e n => ?_, fun x hx => ?_, ?_⟩
        · have c1 := kp x o' e n
          have c2 : x ∉ ρ ++ r1 := fun z => by
            rcases List.mem_append.mp z with z | z
            · exact n z
            · rw [hr x z] at e; cases e
          have c3 := kp2 x o' c1 c2
          have c4 : x ≠ a := fun z => by rw [z, hA a aA] at e; cases e
          rw [upd_ne c4]; exact c3
        · rcases List.mem_append.mp hx with z | z
          · exact hr x z
          · exact kp.old cl (hr2 x z)
        · rw [← List.append_assoc]
          refine cl2.mv (fun x hx o' e => ?_) (fun x xs e => ?_) fun x ob u' e => ?_
          · rw [upd_ne (show x ≠ a from fun z => ar2 (z ▸ hx))]; exact e
          · rw [upd_ne (show x ≠ a from fun z => by rw [z, e2] at e; cases e)]; exact e
          · rw [upd_ne (show x ≠ a from fun z => by rw [z, e2] at e; cases e)]; exact e
      obtain ⟨ρ', k1, k2⟩ := S.base bs
      exact hD σ _ ρ' own k1 k2
    · cases he
  · cases hc
/-! ### x[k] = e -/
theorem only_after {ns nk : List Nat} {fl : Nat} {env : VEnv} : only nk 0 (after ns fl env) = only nk 0 env := by
  have key : ∀ (env : VEnv) (k : Nat), only nk k (demote ns k env) = only nk k env := by
    intro env
    induction env with
    | nil => intro k; rfl
    | cons x r ih =>
      intro k
      unfold demote only
      rw [ih]
      congr 1
      split
      · split
        · cases x <;> rfl
        · rfl
      · rfl
  unfold after
  split
  · rfl
  · exact key env 0
theorem keyOk_flat {n : Bool} {k : T} (h : keyOk n k = true) : k.flat = true := by
  cases n with
  | false => cases k <;> first | (cases h; done) | rfl
  | true =>
    cases k with
    | tup ts =>
      obtain ⟨h, _⟩ := band (show (T.flats ts && T.plains ts && decide (T.deeps ts < 8)) = true from h)
      exact (band h).1
    | _ => cases h
theorem keyOk_plain {n : Bool} {k : T} (h : keyOk n k = true) : k.plain = true := by
  cases n with
  | false => cases k <;> first | (cases h; done) | rfl
  | true =>
    cases k with
    | tup ts =>
      obtain ⟨h, _⟩ := band (show (T.flats ts && T.plains ts && decide (T.deeps ts < 8)) = true from h)
      exact (band h).2
    | _ => cases h
theorem ixL_ixN {n m : Nat} {i : Int} (h : ixL n i = some m) : ixN n i = some m ∧ m < n := by
  unfold ixL at h
  split at h
  · rename_i c
    cases h
    exact ⟨by unfold ixN; rw [if_pos c.1, if_pos c.2], by omega⟩
  · split at h
    · rename_i c1 c
      cases h
      refine ⟨by unfold ixN; rw [if_neg (by omega), if_pos (by omega)], by omega⟩
    · cases h
theorem Rs.setT {w : World} {K : PySem.W.Frag} {ρ : List Addr} {B : Addr → Prop} {H : Hp} {v : V} {t : T} (h0 : R w K ρ B H true v t []) : ∀ {vs : List V} {ts : List T} (m : Nat), Rs w K ρ B H true vs ts [] → Rs w K ρ B H true (vs.set m v) (ts.set m t) []
  | [], [], m, _ => by simpa using Rs.nil
  | [], _ :: _, m, h => by cases h
  | _ :: _, [], m, h => by cases h
  | x :: vs, y :: ts, m, h => by
    generalize hA : ([] : List Addr) = A0 at h
    cases h with
    | cons c d =>
      obtain ⟨rfl, rfl⟩ := List.append_eq_nil_iff.mp hA.symm
      cases m with
      | zero => exact .cons (A := []) (A' := []) h0 d
      | succ m => exact .cons (A := []) (A' := []) c (Rs.setT h0 m d)
theorem flats_set {t : T} (h : t.flat = true) : ∀ {ts : List T} {m : Nat}, T.flats ts = true → T.flats (ts.set m t) = true
  | [], m, _ => by simp [T.flats]
  | x :: r, m, f => by
    obtain ⟨f1, f2⟩ := band (show (T.flat x && T.flats r) = true from f)
    cases m with
    | zero => exact Bool.and_eq_true_iff.mpr ⟨h, f2⟩
    | succ m => exact Bool.and_eq_true_iff.mpr ⟨f1, flats_set h f2⟩
/-- an item of a cell is changed -/
theorem SR.cellSet {w : World} {K : PySem.W.Frag} {B : Addr → Prop} {ρ ρ0 : List Addr} {H H0 : Hp} {g : List T} {env : VEnv} {σ : L2.St} {own own0 : Nat → List Addr} {E : List Addr} (S : SR w K B ρ H g env σ own E) (st : Step ρ0 own0 H0 ρ own E H)
    {n m : Nat} {a : Addr} {ts : List T} {v : V} {t : T} (hn : ρ[n]? = some a) (hg : g[n]? = some (.lst ts)) (hv : R w K [] (fun _ => True) H true v t []) (ft : t.flat = true) :
    ∃ vs, H a = some (.lst vs) ∧ vs.length = ts.length ∧ SR w K B ρ (upd H a (.lst (vs.set m v))) (g.set n (.lst (ts.set m t))) env σ own [] ∧ Step ρ0 own0 H0 ρ own [] (upd H a (.lst (vs.set m v))) := by
  obtain ⟨vs, ts', e0, e1, rs, fl⟩ := S.cells.at_ n a _ hn hg
  cases e0
  have aρ : a ∈ ρ := List.mem_of_getElem? hn
  have live : ∀ x, H x ≠ none → upd H a (.lst (vs.set m v)) x ≠ none := fun x z => by
    by_cases c : x = a
    · rw [c, upd_same]; simp
    · rw [upd_ne c]; exact z
  have ne : ∀ x o, H x = some o → (∀ l, o ≠ .lst l) → x ≠ a := fun x o q z c => by
    rw [c, e1] at q
    exact z _ (Option.some.inj q).symm
  have mv0 : Mv [] [] (fun _ => True) (fun _ => True) H (upd H a (.lst (vs.set m v))) := ⟨fun _ _ _ z => absurd trivial z, fun x xs q => by rw [upd_ne (ne x _ q fun _ z => nomatch z)]; exact q, fun x o u q => by rw [upd_ne (ne x _ q fun _ z => nomatch z)]; exact q, fun _ _ => .inl trivial, ⟨[], rfl⟩⟩
  refine ⟨vs, e1, rs.length, ⟨⟨by simp [S.cells.len], S.cells.nd, fun n' x t' h1 h2 => ?_⟩, fun x z => live x (S.badT x z), S.len, fun i u f e => ?_, S.non, by simp⟩, ⟨fun x o q n1 n2 => ?_, fun x xs q => mv0.tups x xs (st.tups x xs q), fun x o u q => mv0.frzs x o u (st.frzs x o u q), st.more, st.owns, by simp, fun x z => live x (st.live x z)⟩⟩
  · by_cases c : n' = n
    · subst c
      rw [hn] at h1
      cases h1
      have hl : n' < g.length := (List.getElem?_eq_some_iff.mp hg).1
      rw [List.getElem?_set_self hl] at h2
      cases h2
      refine ⟨_, _, rfl, upd_same, Rs.setT (hv.mv mv0 (by simp)) m (rs.mv mv0 (by simp)), flats_set ft fl⟩
    · rw [List.getElem?_set_ne (Ne.symm c)] at h2
      obtain ⟨vs2, ts2, q1, q2, q3, q4⟩ := S.cells.at_ n' x t' h1 h2
      have xa : x ≠ a := fun z => by
        subst z
        obtain ⟨l1, y1⟩ := List.getElem?_eq_some_iff.mp h1
        obtain ⟨l2, y2⟩ := List.getElem?_eq_some_iff.mp hn
        exact c ((List.getElem_inj S.cells.nd).mp (y1.trans y2.symm))
      exact ⟨vs2, ts2, q1, by rw [upd_ne xa]; exact q2, q3.mv mv0 (by simp), q4⟩
  · obtain ⟨v', q1, q2⟩ := S.each i u f e
    exact ⟨v', q1, (q2.mv (Mv.updB (.inl (.inr aρ)) e1 (fun _ z => nomatch z) fun _ _ z => nomatch z)).weakB fun x z => z.imp id fun z => z.imp id fun z => by simp at z⟩
  · have q2 := st.keep x o q n1 n2
    obtain ⟨r, hr, fr⟩ := st.more
    have xa : x ≠ a := fun z => by
      subst z
      rw [hr] at aρ
      rcases List.mem_append.mp aρ with y | y
      · exact n1 y
      · rw [fr x y] at q; cases q
    rw [upd_ne xa]; exact q2
theorem ss_seti {i : Nat} {ns nk : List Nat} {k e : E} : SS D F W (.seti i ns nk k e) := by
  intro X G b st σ ρ B H g g' env own f S hc he Dn hD
  unfold chkS at hc
  split at hc
  · rename_i o k' p2 e' pos
    obtain ⟨hc, h3⟩ := band hc
    obtain ⟨h1, h2⟩ := band hc
    obtain ⟨x, p, rfl, hN, hv, d1, d2⟩ := var_of G h1
    unfold evalS at he
    obtain ⟨r, g1, er, he⟩ := Out.bind_eq he
    obtain ⟨kk, g2, ek, he⟩ := Out.bind_eq he
    have hs : swapsWith e' (some (.Subscript (.Name x p) k' p2)) pos.line X.env = pure false := by cases e' <;> rfl
    intro pins s I
    refine wpAny_Assign_Subscript (thn ((soundE e).1 X G e' σ ρ (BadN B ρ own ns) H g _ _ r.1 r.2 (S.sit ns) h3 er pins s I) fun u1 s1 ⟨v, H1, I1, rv, q⟩ => ?_) hs
    obtain ⟨ρ1, A, st1, S1, k3, k4⟩ := S.post q
    have hvar : ∃ y, (after ns (norm r).2 env).getD i Option.none = some y := by
      unfold setiV at he
      split at he
      · rename_i h; exact ⟨_, h⟩
      · rename_i h; exact ⟨_, h⟩
      · cases he
    obtain ⟨⟨yt, yf⟩, hy⟩ := hvar
    obtain ⟨v0, q1, q2⟩ := S1.each i yt yf hy
    refine thn ((pe_var hN hv d1 d2).run pins s1 σ H1 (fun w H' => w = v0 ∧ H' = H1) I1 ⟨v0, q1, rfl, rfl⟩) fun u2 s2 ⟨w, H', I2, rw0, e1, e2⟩ => ?_
    subst e1 e2
    have ek' : evalE F (only nk 0 (after ns (norm r).2 env)) k g1 = .ok kk g2 := by rw [only_after]; exact ek
    refine thn ((soundE k).1 X G k' σ ρ1 _ H' g1 g2 _ kk.1 kk.2 (S1.sit nk) h2 ek' pins s2 I2) fun u3 s3 ⟨z, H2, I3, rz, q3⟩ => ?_
    obtain ⟨ρ2, st2, S2, rr, hrr, kp2, fr2⟩ := S1.keepE q3.base
    have st3 := st1.trans2 (E3 := A) st2 fun x hx => hx
    obtain ⟨v1, q1b, q2b⟩ := S2.each i yt yf hy
    rw [q1] at q1b
    cases q1b
    -- the value at the later heap
    have k5 : RF X.w X.K ρ2 (fun a => (B a ∨ a ∈ ρ2) ∨ ∃ j, a ∈ ownAfter ns (norm r).2 own j) H2 v r.1 (norm r).2 A := by
      refine k3.mv (.of kp2 S1.cells.apart (fun a ha => .inl (.inr ha)) (fun a y => ?_) ⟨rr, hrr⟩)
      rcases y with (y | y) | y
      · exact .inl (.inl (.inl y))
      · rw [hrr] at y
        rcases List.mem_append.mp y with y | y
        · exact .inl (.inl (.inr y))
        · exact .inr (fr2 a y)
      · exact .inl (.inr y)
    unfold setiV at he
    split at he
    · rename_i n nf h
      rw [hy] at h
      cases h
      split at he
      · rename_i ts j hg2 hk
        split at he
        · rename_i m hm
          split at he
          · rename_i fp
            cases he
            obtain ⟨ft, pt⟩ := band fp
            obtain ⟨m1, m2⟩ := ixL_ixN hm
            have hcell : ∃ a, w = .ref a ∧ ρ2[n]? = some a := by
              have := q2b.sh
              cases this with
              | cell h => exact ⟨_, rfl, h⟩
            obtain ⟨a, rfl, ha⟩ := hcell
            obtain ⟨vs, e1, e2, S4, st4⟩ := S2.cellSet st3 (m := m) ha hg2 (k5.sh.flatP ft pt) ft
            obtain ⟨r0, A0, _, _, _, hkey, _⟩ := q3
            have hk2 := hkey.sh
            rw [hk] at hk2
            have := hk2.int_inv
            subst this
            refine thn (set_list pins s3 σ H2 (.ref a) (.int j) v u2 u3 u1 (fun H' => Dn.nx σ H') I3 rw0 rz rv ⟨a, vs, j, m, rfl, rfl, e1, by rw [e2]; exact m1, hD σ _ ρ2 _ st4 S4⟩) fun _ s4 ⟨H', I4, q4⟩ => ⟨σ, H', I4, q4⟩
          · cases he
        · cases he
      · cases he
    · rename_i bb ks vs h
      rw [hy] at h
      cases h
      split at he
      · rename_i hk
        cases he
        obtain ⟨hk1, hk2⟩ := band hk
        have few := of_decide_eq_true hk2
        rcases q2b with ⟨zz, _⟩ | ⟨zz, a, oA, rfl, nb, top⟩ | ⟨zz, _⟩
        · cases zz
        · cases rw0
          have ha : a ∈ ownAfter ns (norm r).2 own i := by rw [oA]; simp
          have hi : i < (after ns (norm r).2 env).length := by
            rw [S2.len]
            exact (List.getElem?_eq_some_iff.mp q1).1
          have top2 := top.weak (B' := fun x => (B x ∨ x ∈ ρ2) ∨ ∃ j, x ∈ ownAfter ns (norm r).2 own j) fun x y => by
            rcases y with y | ⟨j, y⟩
            · exact .inl (.inl y)
            · by_cases c : j = i
              · rw [c, oA] at y
                exact .inr (List.mem_singleton.mp y)
              · exact .inl (.inr (.inl ⟨j, c, y⟩))
          have hkey : R X.w X.K ρ2 (fun x => (B x ∨ x ∈ ρ2) ∨ ∃ j, x ∈ ownAfter ns (norm r).2 own j) H2 false z kk.1 [] := by
            obtain ⟨r0, A0, kp0, fr0, cl0, hkey, _⟩ := q3
            exact (hkey.sh.flatP (keyOk_flat hk1) (keyOk_plain hk1)).flatAny (keyOk_flat hk1)
          have hob : ∃ o, H2 a = some o ∧ (∀ xs, o ≠ .tup xs) ∧ ∀ ob u, o ≠ .frz ob u := by
            generalize hd : T.dic bb ks vs = d at top
            cases top with
            | lst _ _ => cases hd
            | dicS h1 _ => exact ⟨_, h1, (fun _ z => nomatch z), fun _ _ z => nomatch z⟩
            | dicN h1 _ _ _ _ _ => exact ⟨_, h1, (fun _ z => nomatch z), fun _ _ z => nomatch z⟩
          obtain ⟨ob, hob, no1, no2⟩ := hob
          refine dic_put G.un I3 rz rv top2 (.inr ⟨i, ha⟩) hkey k5.sh hk1 (by rw [szL]; exact sizeL_lt few) fun s' o' mu tp mv I4 => ?_
          obtain ⟨S4, st4⟩ := S2.change st3 (o' := o') (A' := [a]) (t := .dic bb (putT ks vs kk.1 r.1).1 (putT ks vs kk.1 r.1).2) (f := 1) hi q1 ha hob no1 no2 (fun x hx => .inl (by rw [List.mem_singleton.mp hx]; exact ha))
            (.inr (.inl ⟨rfl, a, rfl, rfl, fun y => nb (y.imp id .inl), tp.weak fun x y => by
              rcases y with (y | ⟨j, _, y⟩) | y
              · exact .inl y
              · exact .inr ⟨j, y⟩
              · exact .inr ⟨i, y ▸ ha⟩⟩))
          exact ⟨σ, _, I4, hD σ _ ρ2 _ st4 S4⟩
        · cases zz
      · cases he
    · cases he
  · cases hc
end Fx
end

section
set_option Elab.async false
set_option linter.all false
set_option maxRecDepth 100000
/-! Fx34: loops. -/
namespace Fx
open PySem PySem.Spec PyProof.Rows L2
variable {D : Dec} {F : Call} {W : Nat}

section
variable {w : World} {K : PySem.W.Frag} {ρ ρ' : List Addr} {B B' : Addr → Prop} {H H' : Hp} {g g' : List T} {env env' : VEnv} {σ : L2.St} {own own' : Nat → List Addr} {E : List Addr}
theorem SR.demote (S : SR w K B ρ H g env σ own []) (ns : List Nat) : SR w K B ρ H g (Fx.demote ns 0 env) σ (ownAfter ns 0 own) [] ∧ Step ρ own H ρ (ownAfter ns 0 own) [] H := by
  have e0 : after ns 0 env = Fx.demote ns 0 env := rfl
  refine ⟨⟨S.cells, S.badT, by rw [demote_len]; exact S.len, fun i t f e => ?_, fun i e => ?_, by simp⟩, Step.refl.to (fun j a z => .inl ⟨j, own_sub z⟩) (by simp)⟩
  · rw [← e0, after_at, if_neg (by decide)] at e
    have weak : ∀ a, ((B a ∨ a ∈ ρ) ∨ (∃ j, j ≠ i ∧ a ∈ ownAfter ns 0 own j) ∨ a ∈ ([] : List Addr)) → ((B a ∨ a ∈ ρ) ∨ (∃ j, j ≠ i ∧ a ∈ own j) ∨ a ∈ ([] : List Addr)) := fun a z => z.imp id fun z => z.imp (fun ⟨j, nj, z⟩ => ⟨j, nj, own_sub z⟩) id
    split at e
    · rename_i c
      obtain ⟨p, e1, e2⟩ := Option.map_eq_some_iff.mp e
      cases e2
      obtain ⟨v, q1, q2⟩ := S.each i p.1 p.2 e1
      refine ⟨v, q1, .inl ⟨rfl, ?_, q2.sh.weak weak⟩⟩
      unfold ownAfter
      rw [if_neg (by decide), if_pos c]
    · rename_i c
      obtain ⟨v, q1, q2⟩ := S.each i t f e
      refine ⟨v, q1, ?_⟩
      have eo : ownAfter ns 0 own i = own i := by
        unfold ownAfter
        rw [if_neg (by decide), if_neg c]
      rw [eo]
      exact q2.weakB weak
  · rw [← e0, after_at, if_neg (by decide)] at e
    unfold ownAfter
    rw [if_neg (by decide)]
    split
    · rfl
    · rename_i c
      rw [if_neg c] at e
      exact S.non i e
/-- a tuple more -/
theorem SR.fresh (S : SR w K B ρ H g env σ own E) {p : Addr} {o : HO} (n : H p = none) : SR w K B ρ (upd H p o) g env σ own E ∧ Step ρ own H ρ own [] (upd H p o) := by
  have up : ∀ a u, H a = some u → upd H p o a = some u := fun a u e => by rw [upd_ne (ne_of_none e n)]; exact e
  have live : ∀ a, H a ≠ none → upd H p o a ≠ none := fun a z => by
    cases e : H a with
    | none => exact absurd e z
    | some u => rw [up a u e]; simp
  refine ⟨⟨S.cells.fresh n, fun a z => live a (S.badT a z), S.len, fun i t f e => ?_, S.non, fun a ha => ⟨live a (S.ext a ha).1, (S.ext a ha).2⟩⟩, ⟨fun a u e _ _ => up a u e, fun a xs e => up a _ e, fun a ob u e => up a _ e, ⟨[], by simp, by simp⟩, fun j a h => .inl ⟨j, h⟩, by simp, live⟩⟩
  obtain ⟨v, q1, q2⟩ := S.each i t f e
  exact ⟨v, q1, q2.mv (Mv.fresh n)⟩
theorem SR.tgV (S : SR w K B ρ H g env σ own []) {tg : Tg} {x : V} {t : T} {Q : L2.St → Hp → Prop} (lt : ∀ i ∈ tgIs tg, i < σ.length) (r : R w K ρ (fun a => (B a ∨ a ∈ ρ) ∨ ∃ j, a ∈ own j) H false x t []) (e : bindV tg t env = some env')
    (k : ∀ σ' own', SR w K B ρ H g env' σ' own' [] → (∀ j a, a ∈ own' j → ∃ i, a ∈ own i) → Q σ' H) : gT K tg x σ H Q := by
  cases tg with
  | one i =>
    cases e
    refine k _ _ (S.store (A := []) (E2 := []) (v := x) (by simp) (lt i (by simp [tgIs])) (r.rf0.weakB fun a z => z.elim id fun z => by simp at z)) fun j a z => ?_
    by_cases c : j = i
    · rw [if_pos c] at z; simp at z
    · rw [if_neg c] at z; exact ⟨j, z⟩
  | many is =>
    unfold bindV at e
    simp only at e
    split at e
    · rename_i ts
      split at e
      · rename_i hl
        cases e
        obtain ⟨a, vs, rfl, hT, rs⟩ := r.tup_inv
        obtain ⟨own', S3, o3⟩ := SR.putAll (is := is) (vs := vs) (rs := ts.map fun t => (t, 0)) (by simpa using hl) S (fun i hi => lt i hi) rs.rfs0
        exact ⟨a, vs, rfl, hT, by rw [rs.length, hl], gNs_fold (by rw [rs.length, hl]) (k _ own' S3 fun j a z => (o3 j a z).elim id fun z => by simp at z)⟩
      · cases e
    · cases e
end
theorem ss_whl {ns : List Nat} {c : E} {b : Ss} (hb : SSs D F W b) : SS D F W (.whl ns c b) := by
  intro X G bd st σ ρ B H g g' env own f S hc he Dn hD
  unfold chkS at hc
  split at hc
  · rename_i c' b' pos
    obtain ⟨h1, h2⟩ := band hc
    unfold evalS at he
    generalize htest : (fun (env : VEnv) (g : List T) => (evalE F (only ns 0 env) c g).bind fun x g => Out.of g (x.1.truth.map fun t => (t, env))) = test at he
    generalize hbody : (fun (env : VEnv) (g : List T) => evalSs F W b env g) = body at he
    refine wS.of (ps_while bd.pass (wT.pt X c') (wSs.pss X b')) ⟨fun m σ1 H1 => ∃ env1 g1 ρ1 own1, Step ρ own H ρ1 own1 [] H1 ∧ SR X.w X.K B ρ1 H1 g1 env1 σ1 own1 [] ∧ whlL m test body env1 g1 = .ok f g', ⟨W, env, g, ρ, own, .refl, S, he⟩, fun m σ1 H1 ⟨env1, g1, ρ1, own1, st1, S1, e1⟩ => ?_⟩
    cases m with
    | zero => cases e1
    | succ n =>
      unfold whlL at e1
      obtain ⟨⟨tt, env2⟩, g2, e2, e3⟩ := Out.bind_eq e1
      rw [← htest] at e2
      obtain ⟨x, g3, e4, e5⟩ := Out.bind_eq e2
      obtain ⟨e6, rfl⟩ := Out.of_eq e5
      obtain ⟨t0, e7, e8⟩ := Option.map_eq_some_iff.mp e6
      cases e8
      refine ((soundE c).2 X G c' σ1 ρ1 (BadN B ρ1 own1 ns) H1 g1 _ _ x.1 x.2 tt (S1.sit ns) h1 e4 e7).mono fun d H2 q => ?_
      obtain ⟨rfl, bs⟩ := q
      obtain ⟨ρ2, st2, S2⟩ := S1.base bs
      have st3 := st1.trans st2
      cases d with
      | false =>
        rw [if_neg Bool.false_ne_true]
        rw [if_neg Bool.false_ne_true] at e3
        cases e3
        exact hD σ1 H2 ρ2 own1 st3 S2
      | true =>
        rw [if_pos rfl]
        rw [if_pos rfl] at e3
        obtain ⟨f1, g4, e9, e10⟩ := Out.bind_eq e3
        rw [← hbody] at e9
        refine ⟨fun σ' H' => ∃ env1 g1 ρ1 own1, Step ρ own H ρ1 own1 [] H' ∧ SR X.w X.K B ρ1 H' g1 env1 σ' own1 [] ∧ whlL n test body env1 g1 = .ok f g', fun σ' H' z => ⟨n, Nat.lt_succ_self n, z⟩, ?_⟩
        refine hb X G bd b' σ1 ρ2 B H2 _ g4 env1 own1 f1 S2 h2 e9 _ ?_
        cases f1 with
        | nx env3 => exact fun σ' H' ρ' own' st4 S4 => ⟨env3, g4, ρ', own', st3.trans st4, S4, e10⟩
        | ct env3 => exact fun σ' H' ρ' own' st4 S4 => ⟨env3, g4, ρ', own', st3.trans st4, S4, e10⟩
        | bk env3 =>
          cases e10
          exact fun σ' H' ρ' own' st4 S4 => hD σ' H' ρ' own' (st3.trans st4) S4
        | rt r =>
          cases e10
          exact fun v H' ρ' own' A st4 => hD v H' ρ' own' A (st3.trans st4)
  · cases hc
theorem wSs.lens {X : Cx} {st : List Stmt} {Dn : Ends} {σ : L2.St} {H : Hp} (h : wSs X st { nx := fun σ' H' => σ'.length = X.N.length → Dn.nx σ' H', rt := Dn.rt, bk := fun σ' H' => σ'.length = X.N.length → Dn.bk σ' H', ct := fun σ' H' => σ'.length = X.N.length → Dn.ct σ' H' } σ H) : wSs X st Dn σ H := fun pins s I =>
  thn (h pins s I) fun f s' q => by
    cases f with
    | next => exact let ⟨σ', H', I', q⟩ := q; ⟨σ', H', I', q I'.len⟩
    | brk => exact let ⟨σ', H', I', q⟩ := q; ⟨σ', H', I', q I'.len⟩
    | cont => exact let ⟨σ', H', I', q⟩ := q; ⟨σ', H', I', q I'.len⟩
    | ret u => exact q
theorem ss_for {tg : Tg} {ns : List Nat} {it : It} {b : Ss} (hb : SSs D F W b) : SS D F W (.for_ tg ns it b) := by
  intro X G bd st σ ρ B H g g' env own f S hc he Dn hD
  unfold chkS at hc
  split at hc
  · rename_i tg' it' b' pos
    obtain ⟨hc, h4⟩ := band hc
    obtain ⟨hc, h3⟩ := band hc
    obtain ⟨h1, h2⟩ := band hc
    have lt := chkTg_lt h1
    have pg := tg_pg G.nd G.calm (fun x _ => bd.fn x) h1
    unfold evalS at he
    obtain ⟨ts, g1, ei, he⟩ := Out.bind_eq he
    generalize hbody : (fun (t : T) (env : VEnv) (g : List T) => match bindV tg t env with
      | some env => evalSs F W b env g
      | none => .bad) = body at he
    refine wS.len fun hlen hk => ?_
    refine wS.of (ps_for bd.pass G.calm (wI.pi X tg' it') pg (wSs.pss X b') (fold_ok (okE_it h3))) ((soundIt it X G tg' it' σ ρ (BadN B ρ own ns) H g g1 _ ts (S.sit ns) h3 h2 ei).mono fun J H1 q => ?_)
    obtain ⟨r1, kp1, hr1, cl1, hts, hJ⟩ := q
    -- behind the iterable
    obtain ⟨st1, S1⟩ := S.keepR kp1 hr1 cl1
    obtain ⟨S2, st2⟩ := S1.demote ns
    have st12 := st1.trans st2
    -- from the loop's beginning to any later place
    have mvs : ∀ {ρ' : List Addr} {own' : Nat → List Addr} {H' : Hp}, Step (ρ ++ r1) (ownAfter ns 0 own) H1 ρ' own' [] H' → Mv (ρ ++ r1) ρ' (fun a => BadN B ρ own ns a ∨ a ∈ r1) (fun a => (B a ∨ a ∈ ρ') ∨ ∃ j, a ∈ own' j) H1 H' := fun {ρ' own' H'} s => by
      have inB : ∀ j a, a ∈ ownAfter ns 0 own j → BadN B ρ own ns a := fun j a z => by
        unfold ownAfter at z
        rw [if_neg (by decide)] at z
        split at z
        · simp at z
        · rename_i c
          exact .inr ⟨j, by simpa using c, z⟩
      refine ⟨fun a o e n => s.keep a o e (fun z => ?_) fun j z => n (.inl (inB j a z)), s.tups, s.frzs, fun a z => ?_, ?_⟩
      · rcases List.mem_append.mp z with z | z
        · exact n (.inl (.inl (.inr z)))
        · exact n (.inr z)
      · obtain ⟨r', hr', fr'⟩ := s.more
        rcases z with (z | z) | ⟨j, z⟩
        · exact .inl (.inl (.inl (.inl z)))
        · rw [hr'] at z
          rcases List.mem_append.mp z with z | z
          · rcases List.mem_append.mp z with z | z
            · exact .inl (.inl (.inl (.inr z)))
            · exact .inl (.inr z)
          · exact .inr (fr' a z)
        · rcases s.owns j a z with ⟨k, z⟩ | z
          · exact .inl (.inl (inB k a z))
          · exact .inr z
      · obtain ⟨r', hr', _⟩ := s.more
        exact ⟨r', hr'⟩
    refine ⟨fun i m σ3 H3 => m = ts.length - i ∧ i ≤ ts.length ∧ σ3.length = X.N.length ∧ ∃ env3 g3 ρ3 own3, Step (ρ ++ r1) (ownAfter ns 0 own) H1 ρ3 own3 [] H3 ∧ SR X.w X.K B ρ3 H3 g3 env3 σ3 own3 [] ∧ forL (ts.drop i) body env3 g3 = .ok f g', ⟨ts.length, rfl, Nat.zero_le _, hlen, _, _, _, _, .refl, S2, he⟩, fun i m σ3 H3 ⟨em, im, hlen3, env3, g3, ρ3, own3, st3, S3, e3⟩ => ?_⟩
    subst em
    have st13 := st12.trans st3
    by_cases hi : i < ts.length
    · have hti : ts[i]? = some ts[i] := List.getElem?_eq_getElem hi
      obtain ⟨go, yl⟩ := (hJ _ _ _ (mvs st3) i).2 _ hti
      refine .inr ⟨go, fun σ4 H4 => σ4.length = X.N.length ∧ ∃ env3 g3 ρ3 own3, Step (ρ ++ r1) (ownAfter ns 0 own) H1 ρ3 own3 [] H4 ∧ SR X.w X.K B ρ3 H4 g3 env3 σ4 own3 [] ∧ forL (ts.drop (i + 1)) body env3 g3 = .ok f g', fun σ4 H4 z => ⟨ts.length - (i + 1), by omega, rfl, by omega, z⟩, fun x H4 hy => ?_⟩
      obtain ⟨hH, rx⟩ := yl x H4 hy
      have S4 : SR X.w X.K B ρ3 H4 g3 env3 σ3 own3 [] ∧ Step ρ3 own3 H3 ρ3 own3 [] H4 := by
        rcases hH with rfl | ⟨p, xs, np, rfl⟩
        · exact ⟨S3, .refl⟩
        · exact S3.fresh np
      obtain ⟨S4, st4⟩ := S4
      rw [List.drop_eq_getElem_cons hi] at e3
      unfold forL at e3
      obtain ⟨f5, g5, e5, e6⟩ := Out.bind_eq e3
      rw [← hbody] at e5
      simp only at e5
      split at e5
      · rename_i env5 hb5
        refine S4.tgV (fun i hi => by rw [hlen3]; exact lt i hi) rx hb5 fun σ5 own5 S5 o5 => ?_
        have st45 : Step (ρ ++ r1) (ownAfter ns 0 own) H1 ρ3 own5 [] H4 := (st3.trans st4).to (fun j a z => .inl (o5 j a z)) (by simp)
        refine wSs.lens (hb X G bd b' σ5 ρ3 B H4 g3 g5 env5 own5 f5 S5 h4 e5 _ ?_)
        cases f5 with
        | nx env6 => exact fun σ' H' ρ' own' st6 S6 hl => ⟨hl, env6, g5, ρ', own', st45.trans st6, S6, e6⟩
        | ct env6 => exact fun σ' H' ρ' own' st6 S6 hl => ⟨hl, env6, g5, ρ', own', st45.trans st6, S6, e6⟩
        | bk env6 =>
          cases e6
          exact fun σ' H' ρ' own' st6 S6 _ => hD σ' H' ρ' own' (st12.trans (st45.trans st6)) S6
        | rt r =>
          cases e6
          exact fun v H' ρ' own' A st6 => hD v H' ρ' own' A (st12.trans (st45.trans st6))
      · cases e5
    · refine .inl ⟨(hJ _ _ _ (mvs st3) i).1 (by omega), ?_⟩
      rw [List.drop_eq_nil_of_le (by omega)] at e3
      cases e3
      exact hD σ3 H3 ρ3 own3 st13 S3
  · cases hc
end Fx
end

section
set_option Elab.async false
set_option linter.all false
set_option maxRecDepth 100000
/-! Fx35: append within what is owned whole and then dropped; soundness of all statements. -/
namespace Fx
open PySem PySem.Spec PyProof.Rows L2
variable {D : Dec} {F : Call} {W : Nat}

section
variable {w : World} {K : PySem.W.Frag} {ρ ρ' : List Addr} {B B' : Addr → Prop} {H H' : Hp} {g g' : List T} {env env' : VEnv} {σ : L2.St} {own own' : Nat → List Addr} {E : List Addr}
theorem SR.loose (S : SR w K B ρ H g env σ own []) (i : Nat) : SR w K B ρ H g (env.set i none) σ (fun j => if j = i then [] else own j) (own i) := by
  refine ⟨S.cells, S.badT, by simp [S.len], fun j u f e => ?_, fun j e => ?_, fun a ha => S.live i a ha⟩
  · by_cases c : j = i
    · subst c
      by_cases hl : j < env.length
      · rw [List.getD_eq_getElem?_getD, List.getElem?_set_self hl] at e
        cases e
      · rw [List.getD_eq_getElem?_getD, List.getElem?_eq_none (by simp; omega)] at e
        cases e
    · rw [List.getD_eq_getElem?_getD, List.getElem?_set_ne (Ne.symm c), ← List.getD_eq_getElem?_getD] at e
      obtain ⟨v, q1, q2⟩ := S.each j u f e
      refine ⟨v, q1, ?_⟩
      rw [if_neg c]
      refine q2.weakB fun a z => ?_
      rcases z with z | ⟨k, nk, z⟩ | z
      · exact .inl z
      · by_cases d : k = i
        · rw [if_pos d] at z; simp at z
        · rw [if_neg d] at z
          exact .inr (.inl ⟨k, nk, z⟩)
      · exact .inr (.inl ⟨i, Ne.symm c, z⟩)
  · by_cases c : j = i
    · rw [if_pos c]
    · rw [List.getD_eq_getElem?_getD, List.getElem?_set_ne (Ne.symm c), ← List.getD_eq_getElem?_getD] at e
      rw [if_neg c]
      exact S.non j e
theorem SR.changeE (S : SR w K B ρ H g env σ own E) {ρ0 : List Addr} {own0 : Nat → List Addr} {H0 : Hp} (st : Step ρ0 own0 H0 ρ own E H) {a : Addr} {vs vs' : List V} (ha : a ∈ E) (e : H a = some (.lst vs)) :
    SR w K B ρ (upd H a (.lst vs')) g env σ own [] ∧ Step ρ0 own0 H0 ρ own [] (upd H a (.lst vs')) := by
  have live : ∀ x, H x ≠ none → upd H a (.lst vs') x ≠ none := fun x z => by
    by_cases c : x = a
    · rw [c, upd_same]; simp
    · rw [upd_ne c]; exact z
  have ne : ∀ x o, H x = some o → (∀ l, o ≠ .lst l) → x ≠ a := fun x o q z c => by
    rw [c, e] at q
    exact z _ (Option.some.inj q).symm
  have tp : ∀ x xs, H x = some (.tup xs) → upd H a (.lst vs') x = some (.tup xs) := fun x xs q => by rw [upd_ne (ne x _ q fun _ z => nomatch z)]; exact q
  have fz : ∀ x o u, H x = some (.frz o u) → upd H a (.lst vs') x = some (.frz o u) := fun x o u q => by rw [upd_ne (ne x _ q fun _ z => nomatch z)]; exact q
  have aρ : a ∉ ρ := fun z => (S.ext a ha).2 (.inr z)
  refine ⟨⟨S.cells.mv (fun x hx u q => by rw [upd_ne (show x ≠ a from fun c => aρ (c ▸ hx))]; exact q) tp fz, fun x z => live x (S.badT x z), S.len, fun i u f q => ?_, S.non, by simp⟩, ⟨fun x u q n1 n2 => ?_, fun x xs q => tp x xs (st.tups x xs q), fun x o u q => fz x o u (st.frzs x o u q), st.more, st.owns, by simp, fun x z => live x (st.live x z)⟩⟩
  · obtain ⟨v, q1, q2⟩ := S.each i u f q
    exact ⟨v, q1, (q2.mv (Mv.updB (.inr (.inr ha)) e (fun _ z => nomatch z) fun _ _ z => nomatch z)).weakB fun x z => z.imp id fun z => z.imp id fun z => by simp at z⟩
  · have q2 := st.keep x u q n1 n2
    have xa : x ≠ a := fun c => by
      subst c
      rcases st.ext x ha with ⟨k, z⟩ | z
      · exact n2 k z
      · rw [z] at q; cases q
    rw [upd_ne xa]; exact q2
end
theorem walk_snoc {i : Nat} : ∀ {p : List Nat} {t : T}, walkT t (p ++ [i]) = (walkT t p).bind fun u => walkT u [i]
  | [], t => rfl
  | j :: p, t => by
    have ih : ∀ u : T, walkT u (p ++ [i]) = (walkT u p).bind fun u => walkT u [i] := fun u => walk_snoc (p := p) (t := u)
    cases t with
    | lst ts =>
      show (ts[j]?.bind fun u => walkT u (p ++ [i])) = (ts[j]?.bind fun u => walkT u p).bind fun u => walkT u [i]
      rw [Option.bind_assoc]
      congr 1
      funext u
      exact ih u
    | tup ts =>
      show (ts[j]?.bind fun u => walkT u (p ++ [i])) = (ts[j]?.bind fun u => walkT u p).bind fun u => walkT u [i]
      rw [Option.bind_assoc]
      congr 1
      funext u
      exact ih u
    | _ => rfl
theorem atI_nat {α : Type} {xs : List α} {i : Nat} : atI xs (i : Int) = xs[i]? := by
  unfold atI ixN
  rw [if_pos (by omega)]
  by_cases h : i < xs.length
  · rw [if_pos (by omega)]
    simp
  · rw [if_neg (by omega)]
    rw [List.getElem?_eq_none (by omega)]
    rfl
theorem sub_walk {X : Cx} {σ : L2.St} {H : Hp} {i : Nat} {x : Str} {ρ : List Addr} {v0 : V} {t0 : T} {A0 : List Addr} (hN : X.N[i]? = some x) (hv : Vis X.env.scope x) (d1 : (x == ("__debug__" : Str)) = false) (d2 : (x == ("__classdict__" : Str)) = false)
    (q1 : σ[i]? = some (some v0)) {B : Addr → Prop} (r0 : R X.w X.K ρ B H true v0 t0 A0) {p : Pos} : ∀ {rp : List Nat} {o : Expr} {u : T}, isSubN rp o (.Name x p) = true → walkT t0 rp.reverse = some u →
      wE X o σ H fun v H' => H' = H ∧ ∃ A', R X.w X.K ρ B H true v u A' ∧ A'.Sublist A0
  | [], o, u, h, hw => by
    unfold isSubN at h
    split at h
    · rename_i y py z pz heq
      cases heq
      have e := of_decide_eq_true h
      subst e
      cases hw
      exact wE.of (pe_var hN hv d1 d2) ⟨v0, q1, rfl, A0, r0, .refl _⟩
    · cases h
  | k :: rp, o, u, h, hw => by
    unfold isSubN at h
    split at h
    · rename_i o' kx pos
      obtain ⟨h1, h2⟩ := band h
      rw [List.reverse_cons, walk_snoc] at hw
      obtain ⟨u', w1, w2⟩ := Option.bind_eq_some_iff.mp hw
      have ih := sub_walk hN hv d1 d2 q1 r0 h2 w1
      unfold isLitInt at h1
      split at h1
      · rename_i j kk pp
        have e := of_decide_eq_true h1
        subst e
        cases u' with
        | lst ts =>
          have w3 : ts[k]? = some u := by
            have : (ts[k]?.bind fun u => some u) = some u := w2
            simpa using this
          refine wE.of (pe_ix ix_list (wE.pe X o') pe_int (fun _ _ => rfl)) (ih.mono fun v H' ⟨e1, A', r1, s1⟩ => ?_)
          subst e1
          cases r1 with
          | lst2 e2 e3 =>
            obtain ⟨v', A2, z1, z2, z3⟩ := e3.at_ w3
            exact ⟨_, _, (k : Int), v', rfl, rfl, SqL.of e2, by rw [atI_nat]; exact z1, rfl, A2, z2, (z3.trans (List.sublist_cons_self _ _)).trans s1⟩
        | tup ts =>
          have w3 : ts[k]? = some u := by
            have : (ts[k]?.bind fun u => some u) = some u := w2
            simpa using this
          refine wE.of (pe_ix ix_tup (wE.pe X o') pe_int (fun _ _ => rfl)) (ih.mono fun v H' ⟨e1, A', r1, s1⟩ => ?_)
          subst e1
          cases r1 with
          | tup e2 e3 =>
            obtain ⟨v', A2, z1, z2, z3⟩ := e3.at_ w3
            exact ⟨_, _, (k : Int), v', rfl, rfl, e2, by rw [atI_nat]; exact z1, rfl, A2, z2, z3.trans s1⟩
        | _ => cases w2
      · cases h1
    · cases h
theorem ss_appV {i : Nat} {path : List Nat} {c : E} : SS D F W (.appV i path c) := by
  intro X G b st σ ρ B H g g' env own f S hc he Dn hD
  unfold chkS at hc
  split at hc
  · rename_i o x apos c' pos pos2
    obtain ⟨hc, h5⟩ := band hc
    obtain ⟨hc, h4⟩ := band hc
    obtain ⟨hc, h3⟩ := band hc
    obtain ⟨h1, h2⟩ := band hc
    have ex := of_decide_eq_true h1
    subst ex
    split at h3
    · rename_i y hN
      obtain ⟨h3, n3⟩ := band h3
      obtain ⟨n1, n2⟩ := band h3
      unfold evalS at he
      split at he
      · rename_i t f0 hr
        obtain ⟨k, g2, ek, he2⟩ := Out.bind_eq he
        clear he
        split at he2
        · rename_i hf2
          subst hf2
          split at he2
          · rename_i u hw
            split at he2
            · rename_i hu
              cases he2
              obtain ⟨v0, q1, q2⟩ := S.each i t 2 hr
              have ro := q2.own2
              have hw' : walkT t path.reverse.reverse = some u := by rw [List.reverse_reverse]; exact hw
              refine wS.of (ps_expr (pe_append (wE.pe X o) (wA.pa X [c']) h2 (okE_chk h4) h5) rfl) ((sub_walk hN (vis_of n2) (name_of n3).1 (name_of n3).2 q1 ro n1 hw').mono fun v H1 ⟨e1, A', r1, s1⟩ => ?_)
              subst e1
              cases u with
              | lst ts =>
                have few : ts.length < 1000000 := of_decide_eq_true hu
                cases r1 with
                | lst2 e2 e3 =>
                  rename_i a ws A1 _
                  have aO : a ∈ own i := s1.subset (by simp)
                  have S1 := S.loose i
                  have st1 : Step ρ own H1 ρ (fun j => if j = i then [] else own j) (own i) H1 := Step.refl.to (fun j a z => by
                    by_cases cc : j = i
                    · rw [if_pos cc] at z; simp at z
                    · rw [if_neg cc] at z; exact .inl ⟨j, z⟩) fun a z => .inl ⟨i, z⟩
                  refine ⟨.inl ⟨rfl, ws, SqL.of e2⟩, ?_⟩
                  have S2 : Sit X.w X.K ρ (BadN B ρ own []) H1 g [] σ := by
                    have := S.sit []
                    exact ⟨this.cells, this.bad, this.badT, fun i t e => by simp at e⟩
                  refine wA.of (pa_cons (wE.pe X c') pa_nil (starEach_ok (okE_chk h4))) (((soundE c).1 X G c' σ _ _ H1 g _ _ k.1 k.2 S2 h4 ek).mono fun u2 H2 q3 => ?_)
                  obtain ⟨ρ2, st2, S3, rr, hrr, kp2, fr2⟩ := S1.keepE q3.base
                  have aρ : a ∉ ρ := fun z => (S.live i a aO).2 (.inr z)
                  have e4 : H2 a = some (.lst ws) := kp2 a _ e2 aρ
                  obtain ⟨S4, st4⟩ := S3.changeE (vs' := ws ++ [u2]) (st1.trans2 (E3 := own i) st2 fun x hx => hx) aO e4
                  exact ⟨a, ws, u2, rfl, rfl, e4, by rw [e3.length]; exact sizeL_lt few, hD σ _ ρ2 _ st4 S4⟩
              | _ => cases hu
            · cases he2
          · cases he2
        · cases he2
      · cases he
    · cases h3
  · cases hc
mutual
theorem soundS : ∀ s : S, SS D F W s
  | .set _ _ _ => ss_set
  | .unp _ _ _ => ss_unp
  | .par _ _ _ => ss_par
  | .seti _ _ _ _ _ => ss_seti
  | .app _ _ _ => ss_app
  | .pop _ _ => ss_pop
  | .cel _ _ _ => ss_cel
  | .appE _ _ _ => ss_appE
  | .appV _ _ _ => ss_appV
  | .exp _ _ => ss_exp
  | .ret _ _ => ss_ret
  | .retV _ => ss_retV
  | .retT _ _ _ => ss_retT
  | .rai => ss_rai
  | .pas => ss_pas
  | .brk => ss_brk
  | .cnt => ss_cnt
  | .ifs _ _ a b => ss_ifs (soundSs a) (soundSs b)
  | .for_ _ _ _ b => ss_for (soundSs b)
  | .whl _ _ b => ss_whl (soundSs b)
theorem soundSs : ∀ s : Ss, SSs D F W s
  | .nil => sss_nil
  | .cons s r => sss_cons (soundS s) (soundSs r)
end
end Fx
end

section
set_option Elab.async false
set_option linter.all false
set_option maxRecDepth 100000
/-! Fx36: functions. -/
namespace Fx
open PySem PySem.Spec PyProof.Rows L2
variable {D : Dec}

/-- a def of the module, and the core function that stands for it -/
structure DefOf (K : PySem.W.Frag) (mg : Str → Option Value) (D : Dec) (x : Str) (kw : List (List Str × List Nat)) (d : Fn) : Prop where
  ex : ∃ (fa : Addr) (oc : Value) (od : Option Addr) (osl : Array (Option Value)) (name qual : Str) (params : Arguments) (body : List Stmt) (scope : Scope) (dV kV doc pm : Value) (an : Option Addr) (cdv ct : Value) (N ps : List Str),
    mg x = some (.ref fa) ∧ PySem.W.keepIn K (.ref fa) = true ∧ K.lookup fa = some ⟨oc, od, .func (PySem.W.fnOf name qual params body scope dV kV doc pm an cdv ct), osl⟩ ∧ PySem.W.codeIn K cdv qual = true ∧ FnScope N ps scope ∧
    (∀ (s : Shared) (us : List Value), us.length = ps.length → BindsTo s (PySem.W.fnOf name qual params body scope dV kV doc pm an cdv ct) ⟨us, []⟩ (ps.zip us)) ∧
    (∀ p ∈ kw, ∀ (s : Shared) (ws : List Value), ws.length = p.1.length → BindsTo s (PySem.W.fnOf name qual params body scope dV kV doc pm an cdv ct) ⟨[], p.1.zip ws⟩ (ps.zip (p.2.map fun i => ws.getD i .none)) ∧ p.2.length = ps.length) ∧
    chkSs D N scope d.body body = true ∧ ps.length = d.np ∧ N.length = d.nl
/-- the module -/
structure Mdl (K : PySem.W.Frag) (mg : Str → Option Value) (w : World) (D : Dec) (P : List Fn) : Prop where
  blt : ∀ x ∈ bltNames, mg x = none
  con : ∀ p ∈ D.cons, ∃ v u, mg p.1 = some u ∧ L2.RelV v u ∧ ∀ ρ B H, R w K ρ B H true v p.2 []
  fn : ∀ f x, D.names[f]? = some x → ∃ d, P[f]? = some d ∧ DefOf K mg D x (D.kwOf f) d
theorem getD_start {ts : List T} {n i : Nat} {t : T} {f : Nat} (h : (ts.map (fun t => some (t, 0)) ++ List.replicate n (none : Option (T × Nat))).getD i none = some (t, f)) : ts[i]? = some t ∧ f = 0 := by
  rw [List.getD_eq_getElem?_getD] at h
  by_cases c : i < ts.length
  · rw [List.getElem?_append_left (by simpa using c), List.getElem?_map, List.getElem?_eq_getElem c] at h
    cases h
    exact ⟨List.getElem?_eq_getElem c, rfl⟩
  · rw [List.getElem?_append_right (by simpa using c), List.getElem?_replicate] at h
    split at h <;> cases h
theorem fnRun {P : List Fn} {W : Nat} {w : World} {K : PySem.W.Frag} {mg : Str → Option Value} (M : Mdl K mg w D P) (k : Nat)
    (ih : ∀ (X : Cx), X.w = w → X.K = K → X.mg = mg → Room k X.A → X.A.guards = some [] → ∀ f x, D.names[f]? = some x → FnAt X x (D.kwOf f) (evalF P W k f))
    {d : Fn} {fa : Addr} {oc : Value} {od : Option Addr} {osl : Array (Option Value)} {name qual : Str} {params : Arguments} {body : List Stmt} {scope : Scope} {dV kV doc pm : Value} {an : Option Addr} {cdv ct : Value} {N ps : List Str}
    (lk : K.lookup fa = some ⟨oc, od, .func (PySem.W.fnOf name qual params body scope dV kV doc pm an cdv ct), osl⟩) (hcd : PySem.W.codeIn K cdv qual = true) (S : FnScope N ps scope)
    (ck : chkSs D N scope d.body body = true) (n1 : ps.length = d.np) (n2 : N.length = d.nl)
    {Pg : Program} {base : Heap} {A : Around} {outer : List PySem.Env} {s : Shared} {H : Hp} {args : Args} {us : List Value} {vs : List V} {Q : VK} {ts g g' : List T} {t : T} {fl : Nat} {ρ : List Addr} {B : Addr → Prop}
    (hrX : Room (k + 1) A) (hgX : A.guards = some []) (e0 : Env0 Pg w K mg base A outer s H) (hb : BindsTo s (PySem.W.fnOf name qual params body scope dV kV doc pm an cdv ct) args (ps.zip us)) (rv : Vals vs us) (rs : Rs w K ρ B H false vs ts []) (cl : Cells w K ρ H g) (bad : ∀ a ∈ ρ, B a) (badT : ∀ a, B a → H a ≠ none)
    (hl : ts.length = d.np ∧ d.np ≤ d.nl) (ev : ((evalSs (evalF P W k) W d.body (ts.map (fun t => some (t, 0)) ++ List.replicate (d.nl - d.np) none) g).bind fun f g => (match f with
        | .rt r => .ok (norm r) g
        | .nx _ => .ok (.non, 2) g
        | _ => .bad)) = Out.ok (t, fl) g') (post : ∀ v H', Post w K ρ B H t fl g' v H' → Q v H') :
    codeAny (model Pg w) A (.call (.ref fa) args) (fun r s' => match r with
        | .ok (.ret u) => CE outer Pg w H s Q u s'
        | _ => False) s := by
  obtain ⟨f1, g1, e5, e6⟩ := Out.bind_eq ev
  have hvl : vs.length = ps.length := by rw [rs.length, hl.1, n1]
  have hul : us.length = ps.length := by rw [← rv.length, hvl]
  have KX : K.In s.heap := e0.mod.kin.keeps fun b o e => (e0.bs b o e).1
  have lim : s.heap.NoLimit := e0.mod.nolimit.keeps fun b o e => (e0.bs b o e).1
  have hkind : ∀ y ∈ ps.zip us, scope.names.lookup y.1 = some .local ∨ (scope.names.lookup y.1 = some .cell ∧ ((cellsFrom (s.heap.objs.size + 1) scope.names []).lookup y.1).isSome = true) := fun y hy => by
    rcases S.par y.1 (List.of_mem_zip hy).1 with q | q
    · exact .inl q
    · exact .inr ⟨q, PySem.W.cellsFrom_some _ _ _ (.inl q)⟩
  refine codeAny_call_function hrX.depth (KX _ _ lk) rfl S.co S.gen rfl (PySem.W.codeRec_of KX hcd) (hb _ _ _ _ ?_)
  refine wpAny_newFunctionEnv_cells S.kind hkind fun env he s1 x0 => ?_
  subst he
  refine ⟨lim.keeps x0.toInCall.keep, codeAny_func ?_⟩
  have I1 := inv_start (CX := fun _ _ _ _ _ _ => False) (E := fun _ _ _ => False) S hrX.hd e0 hvl rv x0
  generalize hXb : cxOf (fun _ _ _ _ _ _ => False) Pg w K mg base N qual scope fa cdv A outer s H (fun _ _ _ => False) = Xb at I1
  have I2 : L2.Inv Xb.nox [] (L2.start N vs) H s1 := I1.wish _
  have hd5 : Xb.nox.A = A.deeper (envOfC qual scope s.heap.objs.size fa cdv) := by rw [← hXb]; rfl
  have hrb : Room k Xb.nox.A := by rw [hd5]; exact hrX.deeper _
  have hgb : Xb.nox.A.guards = some [] := by rw [hd5]; exact hgX
  have q1 : Xb.nox.w = w := by rw [← hXb]; rfl
  have q2 : Xb.nox.K = K := by rw [← hXb]; rfl
  have q3 : Xb.nox.mg = mg := by rw [← hXb]; rfl
  have q4 : Xb.nox.N = N := by rw [← hXb]; rfl
  have q5 : Xb.nox.env.scope = scope := by rw [← hXb]; rfl
  have q6 : Xb.nox.w = w := by rw [← hXb]; rfl
  have q7 : Xb.nox.K = K := by rw [← hXb]; rfl
  have G : Gd Xb.nox D (evalF P W k) := by
    refine ⟨by rw [← hXb]; rfl, by rw [q4]; exact S.nd, hgb, hrb.hd, by have := hrb.un; omega, fun y hy => by rw [q3]; exact M.blt y hy, fun p hp => ?_, fun f x hf => ih Xb.nox q1 q2 q3 hrb hgb f x hf⟩
    obtain ⟨v, u, a1, a2, a3⟩ := M.con p hp
    exact ⟨v, u, by rw [q3]; exact a1, a2, fun ρ B H => by rw [q1, q2]; exact a3 ρ B H⟩
  have Bb : Bd Xb.nox := ⟨fun x => by rw [← hXb]; rfl, PassesOwn.never⟩
  have SRb : SR Xb.nox.w Xb.nox.K B ρ H g (ts.map (fun t => some (t, 0)) ++ List.replicate (d.nl - d.np) Option.none) (L2.start N vs) (fun _ => []) [] := by
    rw [q6, q7]
    refine ⟨cl, badT, ?_, fun i t f hi => ?_, fun _ _ => rfl, by simp⟩
    · unfold L2.start
      simp only [List.length_append, List.length_map, List.length_replicate]
      rw [hvl, n1, n2, hl.1]
    · obtain ⟨z1, rfl⟩ := getD_start hi
      obtain ⟨v, A', z2, z3, _⟩ := rs.at_ z1
      have := z3.nil
      subst this
      refine ⟨v, ?_, .inl ⟨rfl, rfl, z3.weak fun a z => ?_⟩⟩
      · unfold L2.start
        have hlt := (List.getElem?_eq_some_iff.mp z2).1
        rw [List.getElem?_append_left (by simpa using hlt), List.getElem?_map, z2]
        rfl
      · rcases z with (z | z) | ⟨j, _, z⟩ | z
        · exact z
        · exact bad a z
        · simp at z
        · simp at z
  have ck' : chkSs D Xb.nox.N Xb.nox.env.scope d.body body = true := by rw [q4, q5]; exact ck
  have key : ∀ (v : V) (H' : Hp) (r : T × Nat) (ρ' : List Addr) (own' : Nat → List Addr) (A : List Addr) (g2 : List T), Step ρ (fun _ => []) H ρ' own' A H' → Cells Xb.nox.w Xb.nox.K ρ' H' g2 → RF Xb.nox.w Xb.nox.K ρ' (fun a => B a ∨ a ∈ ρ') H' v r.1 r.2 A → norm r = (t, fl) → g2 = g' → Q v H' := by
    intro v H' r ρ' own' A g2 st c2 rf en eg
    subst eg
    obtain ⟨r', hr', fr'⟩ := st.more
    subst hr'
    rw [q6, q7] at c2 rf
    obtain ⟨A2, rf2, sub⟩ := rf.normed
    rw [en] at rf2
    refine post v H' ?_
    refine ⟨r', A2, fun a o e n => st.keep a o e n (by simp), fr', c2, rf2.weakB fun a z => ?_, fun a ha => (st.ext a (sub.subset ha)).elim (fun ⟨_, z⟩ => by simp at z) id⟩
    rcases z with z | z
    · exact .inl z
    · exact .inr (List.mem_append.mpr (.inr z))
  have run := soundSs (W := W) d.body Xb.nox G Bb body (L2.start N vs) ρ B H g g1 _ (fun _ => []) f1 SRb ck' e5 { nx := fun _ H' => Q .non H', rt := Q, bk := fun _ _ => False, ct := fun _ _ => False } (by
    cases f1 with
    | rt r =>
      injection e6 with e7 e8
      exact fun v H' ρ' own' A st c2 rf => key v H' r ρ' own' A _ st c2 rf e7 e8
    | nx env1 =>
      cases e6
      exact fun σ' H' ρ' own' st S4 => key .non H' (.non, 2) ρ' own' [] _ st S4.cells (.inr (.inr ⟨rfl, .non, .nil, by simp⟩)) rfl rfl
    | bk _ => cases e6
    | ct _ => cases e6) [] s1 I2
  subst hXb
  refine wpAny_mono run (fun fl2 s' hs => ?_) fun e s' hs => False.elim hs
  have fin : ∀ {σ' : L2.St} {H' : Hp} {v : V} {u : Value}, L2.Inv (cxOf (fun _ _ _ _ _ _ => False) Pg w K mg base N qual scope fa cdv A outer s H (fun _ _ _ => False)).nox [] σ' H' s' → RelV v u → Q v H' → CE outer Pg w H s Q u s' :=
    fun {σ' H' v u} J rv q => ⟨v, H', J.os, J.bare, J.base, J.hok, rv, q⟩
  cases fl2 with
  | ret u =>
    obtain ⟨v, σ', H', J, rv, q⟩ := hs
    exact fin J rv q
  | next =>
    obtain ⟨σ', H', J, q⟩ := hs
    exact fin (v := V.non) (u := Value.none) J rfl q
  | brk =>
    obtain ⟨_, _, _, q⟩ := hs
    exact False.elim q
  | cont =>
    obtain ⟨_, _, _, q⟩ := hs
    exact False.elim q
theorem fnAt {P : List Fn} {W : Nat} {w : World} {K : PySem.W.Frag} {mg : Str → Option Value} (M : Mdl K mg w D P) : ∀ (k : Nat) (X : Cx), X.w = w → X.K = K → X.mg = mg → Room k X.A → X.A.guards = some [] →
    ∀ f x, D.names[f]? = some x → FnAt X x (D.kwOf f) (evalF P W k f)
  | 0, X, e1, e2, e3, hr, hg, f, x, hf => by
    obtain ⟨d, hd, ⟨fa, oc, od, osl, name, qual, params, body, scope, dV, kV, doc, pm, an, cdv, ct, N, ps, m1, m2, lk, hcd, S, b1, b2, ck, n1, n2⟩⟩ := M.fn f x hf
    refine ⟨fa, _, ps, by rw [e3]; exact m1, by rw [e2]; exact m2, b1, b2, ?_⟩
    intro X' like pins s σ H pos kws us vs Q ts g g' t fl ρ B I hb rv rs cl bad badT ev
    cases ev
  | k + 1, X, e1, e2, e3, hr, hg, f, x, hf => by
    obtain ⟨d, hd, ⟨fa, oc, od, osl, name, qual, params, body, scope, dV, kV, doc, pm, an, cdv, ct, N, ps, m1, m2, lk, hcd, S, b1, b2, ck, n1, n2⟩⟩ := M.fn f x hf
    refine ⟨fa, _, ps, by rw [e3]; exact m1, by rw [e2]; exact m2, b1, b2, ?_⟩
    intro X' like pins s σ H pos kws us vs Q ts g g' t fl ρ B I hb rv rs cl bad badT ev post
    obtain ⟨l1, l2, l3, l4, l5, l6⟩ := like
    have lkX : X'.K.lookup fa = some ⟨oc, od, .func (PySem.W.fnOf name qual params body scope dV kV doc pm an cdv ct), osl⟩ := by rw [l3, e2]; exact lk
    have hcdX : PySem.W.codeIn X'.K cdv qual = true := by rw [l3, e2]; exact hcd
    have hrX : Room (k + 1) X'.A := by rw [l6]; exact hr
    have hgX : X'.A.guards = some [] := by rw [l6]; exact hg
    -- the evaluator's own call
    replace ev : (match P[f]? with
      | some d => if ts.length = d.np ∧ d.np ≤ d.nl then (evalSs (evalF P W k) W d.body (ts.map (fun t => some (t, 0)) ++ List.replicate (d.nl - d.np) none) g).bind fun f g => (match f with
        | .rt r => .ok (norm r) g
        | .nx _ => .ok (.non, 2) g
        | _ => .bad) else .bad
      | none => .bad) = Out.ok (t, fl) g' := ev
    rw [hd] at ev
    simp only at ev
    split at ev
    · rename_i hl
      have e0 := I.env0
      have hl2 : us.length = ps.length := by rw [← rv.length, rs.length, hl.1, n1]
      obtain ⟨w', K', mg', A'⟩ := (⟨X'.w, X'.K, X'.mg, X'.A⟩ : World × PySem.W.Frag × (Str → Option Value) × Around)
      have f1 : X'.w = w := l2.trans e1
      have f2 : X'.K = K := l3.trans e2
      have f3 : X'.mg = mg := l4.trans e3
      rw [f1, f2, f3] at e0
      rw [f1, f2] at rs cl post
      rw [f1]
      refine wpAny_call (codeAny_mono (fnRun M k (fun X => fnAt M k X) lk hcd S ck n1 n2 hrX hgX e0 (hb hl2) rv rs cl bad badT hl ev post) fun r s' hq => ?_)
      cases r with
      | error e => exact False.elim hq
      | ok fl =>
        cases fl with
        | ret u =>
          refine I.after ?_
          rw [f1]
          exact hq
        | next => exact False.elim hq
        | brk => exact False.elim hq
        | cont => exact False.elim hq
    · cases ev
end Fx
end

section
set_option Elab.async false
set_option linter.all false
set_option maxRecDepth 100000
/-! Fx37: from the top: the law's call, out of what the evaluator says. -/
namespace Fx
open PySem PySem.Spec PyProof.Rows L2
variable {D : Dec}

theorem ints_rs {w : World} {K : PySem.W.Frag} {ρ : List Addr} {B : Addr → Prop} {H : Hp} : ∀ ns : List Int, Rs w K ρ B H false (ns.map V.int) (ns.map T.int) []
  | [] => .nil
  | i :: r => .cons (A := []) (A' := []) (.int i) (ints_rs r)
/-- the call behind the top, over an abstract heap H in which the script alone may be locked -/
theorem law_at {P : List Fn} {W : Nat} {w : World} {K : PySem.W.Frag} {mg mb : Str → Option Value} (M : Mdl K mg w D P) (k : Nat) {d : Fn} {x : Str} {Pg : Program} {s1 : Shared} {a fa : Addr} {vs : List Value} {ns : List Int}
    {oc : Value} {od : Option Addr} {osl : Array (Option Value)} {name qual : Str} {params : Arguments} {body : List Stmt} {scope : Scope} {dV kV doc pm : Value} {an : Option Addr} {cdv ct : Value} {N : List Str}
    (lk : K.lookup fa = some ⟨oc, od, .func (PySem.W.fnOf name qual params body scope dV kV doc pm an cdv ct), osl⟩) (hcd : PySem.W.codeIn K cdv qual = true) (S : FnScope N [x] scope)
    (ck : chkSs D N scope d.body body = true) (n1 : d.np = 1) (n2 : N.length = d.nl)
    (hbind : ∀ (s : Shared) (u : Value), BindsTo s (PySem.W.fnOf name qual params body scope dV kV doc pm an cdv ct) ⟨[u], []⟩ [(x, u)])
    (KX : K.In s1.heap) (hns : s1.heap.Ns mainGlobals mg) (hb : s1.heap.Ns builtinsNs mb) (hbb : ∀ x : Str, x ≠ "__name__" → mb x = bootBuiltins x) (hlim : s1.heap.NoLimit) (hg : s1.gens = #[])
    (ha : s1.heap.get? a = some { cls := .type "list", data := .seq vs.toArray }) (hr : Room (k + 1) callerA) (hle : d.np ≤ d.nl)
    {g' : List T} {fl : Nat} (ev : ((evalSs (evalF P W k) W d.body ([T.fro (ns.map T.int)].map (fun t => some (t, 0)) ++ List.replicate (d.nl - d.np) none) []).bind fun f g => (match f with
        | .rt r => .ok (norm r) g
        | .nx _ => .ok (.non, 2) g
        | _ => .bad)) = Out.ok (.bl true, fl) g')
    (H : Hp) (hO : Only H) (hF : Froz K H a (ns.map V.int)) (hok : HOk Pg w H s1.heap) (hA : ∀ b, H b ≠ none → b = a) (hK : H a ≠ none → K.lookup a = none) :
    codeAny (model Pg w) callerA (.call (.ref fa) ⟨[.ref a], []⟩) (fun r s' => r = .ok (.ret (.bool true)) ∧ OldK s1.heap s'.heap ∧ s'.os = s1.os ∧ AllBare s'.gens) s1 := by
  have free : ∀ {b : Addr} {o : Obj}, s1.heap.get? b = some o → (∀ es ep, o.data = .dict es ep → True) → (∀ xs n, o.data ≠ .seq xs n) → H b = none := fun {b o} e _ ne => by
    cases q : H b with
    | none => rfl
    | some u =>
      have e1 := hA b (by rw [q]; simp)
      rw [e1, ha] at e
      cases e
      exact absurd rfl (ne _ _)
  have ns1 : ∀ {b : Addr} {m : Str → Option Value}, s1.heap.Ns b m → (hidT s1.heap H).Ns b m := fun {b m} ⟨o, es, ep, e, dd, r⟩ => ⟨o, es, ep, hidT_get e (free e (fun _ _ _ => trivial) fun xs n z => by rw [dd] at z; cases z), dd, r⟩
  have K1 : K.In (hidT s1.heap H) := fun b o e => hidT_get (KX b o e) (by
    cases q : H b with
    | none => rfl
    | some u =>
      have e1 := hA b (by rw [q]; simp)
      subst e1
      rw [hK (by rw [q]; simp)] at e
      cases e)
  have M1 : Mod K mg (hidT s1.heap H) := ⟨K1, ns1 hns, ⟨mb, ns1 hb, hbb⟩, let ⟨mc, z1, z2⟩ := hlim; ⟨mc, ns1 z1, z2⟩⟩
  have E0 : Env0 Pg w K mg (hidT s1.heap H) callerA [] s1 H := ⟨rfl, M1, fun b o e => of_hidT e, Nat.le_of_eq (hidT_size _ _), trivial, fun b z => absurd (show b ∈ ([] : List Addr) from z) (by simp), hok, .of_eq hg⟩
  refine codeAny_mono (fnRun M k (fun X => fnAt M k X) lk hcd S ck n1.symm n2 (us := [.ref a]) (vs := [.ref a]) (ts := [T.fro (ns.map T.int)]) (g := []) (ρ := []) (B := fun _ => False) (Q := fun v _ => v = .bl true) hr rfl E0 (hbind s1 (.ref a)) (.cons rfl .nil)
    (.cons (A := []) (A' := []) (.fro hF (ints_rs ns)) .nil) ⟨rfl, .nil, fun n a t h => by simp at h⟩ (by simp) (fun _ z => z.elim) ⟨by rw [n1]; rfl, hle⟩ ev fun v H' q => ?_) fun r s' h => ?_
  · obtain ⟨_, _, _, _, _, rf, _⟩ := q
    cases rf.sh
    rfl
  · cases r with
    | error e => exact h.elim
    | ok f =>
      cases f with
      | ret u =>
        obtain ⟨v, H', os, bare, un, hok', rr, q⟩ := h
        subst q
        cases (show u = Value.bool true from rr)
        refine ⟨rfl, OldK.of_keep fun b o e => ?_, os, bare⟩
        cases q : H b with
        | none => exact un.keep b o e q (fun z => absurd (show b ∈ ([] : List Addr) from z) (by simp)) (by simp)
        | some u =>
          rcases hO b with z | ⟨ob, xs, z⟩
          · rw [q] at z; cases z
          · obtain ⟨y1, _⟩ := hok b _ z
            obtain ⟨y2, _⟩ := hok' b _ (un.frzs b ob _ z)
            rw [e] at y1
            cases y1
            exact y2
      | next => exact h.elim
      | brk => exact h.elim
      | cont => exact h.elim
theorem ints_vs : ∀ {vs : List Value} {ns : List Int}, IntsAre vs ns → Vals (ns.map V.int) vs
  | _, _, .nil => .nil
  | _, _, .cons n t h => .cons ⟨t, rfl⟩ (ints_vs h)
theorem law_top {P : List Fn} {W : Nat} {w : World} {K : PySem.W.Frag} {mg mb : Str → Option Value} (M : Mdl K mg w D P) (k : Nat) {d : Fn} {x : Str} {Pg : Program} {s1 : Shared} {a fa : Addr} {vs : List Value} {ns : List Int}
    {oc : Value} {od : Option Addr} {osl : Array (Option Value)} {name qual : Str} {params : Arguments} {body : List Stmt} {scope : Scope} {dV kV doc pm : Value} {an : Option Addr} {cdv ct : Value} {N : List Str}
    (lk : K.lookup fa = some ⟨oc, od, .func (PySem.W.fnOf name qual params body scope dV kV doc pm an cdv ct), osl⟩) (hcd : PySem.W.codeIn K cdv qual = true) (S : FnScope N [x] scope)
    (ck : chkSs D N scope d.body body = true) (n1 : d.np = 1) (n2 : N.length = d.nl)
    (hbind : ∀ (s : Shared) (u : Value), BindsTo s (PySem.W.fnOf name qual params body scope dV kV doc pm an cdv ct) ⟨[u], []⟩ [(x, u)])
    (KX : K.In s1.heap) (hns : s1.heap.Ns mainGlobals mg) (hb : s1.heap.Ns builtinsNs mb) (hbb : ∀ x : Str, x ≠ "__name__" → mb x = bootBuiltins x) (hlim : s1.heap.NoLimit) (hg : s1.gens = #[])
    (ha : s1.heap.get? a = some { cls := .type "list", data := .seq vs.toArray }) (hi : IntsAre vs ns) (hl : ns.length ≤ sizeLine) (hr : Room (k + 1) callerA) (hle : d.np ≤ d.nl)
    {g' : List T} {fl : Nat} (ev : ((evalSs (evalF P W k) W d.body ([T.fro (ns.map T.int)].map (fun t => some (t, 0)) ++ List.replicate (d.nl - d.np) none) []).bind fun f g => (match f with
        | .rt r => .ok (norm r) g
        | .nx _ => .ok (.non, 2) g
        | _ => .bad)) = Out.ok (.bl true, fl) g') :
    codeAny (model Pg w) callerA (.call (.ref fa) ⟨[.ref a], []⟩) (fun r s' => r = .ok (.ret (.bool true)) ∧ OldK s1.heap s'.heap ∧ s'.os = s1.os ∧ AllBare s'.gens) s1 := by
  have rv := ints_vs hi
  have hlen := hi.length
  have run := law_at M k lk hcd S ck n1 n2 hbind KX hns hb hbb hlim hg ha hr hle ev (Pg := Pg)
  cases hk : K.lookup a with
  | some o =>
    have e := KX a o hk
    rw [ha] at e
    cases e
    exact run (fun _ => none) (fun _ => .inl rfl) (.inr ⟨_, vs.toArray, _, hk, rfl, rfl, rfl, by rw [List.size_toArray, hlen]; exact hl, by simpa using rv⟩) (fun b u z => nomatch z) (fun b z => absurd rfl z) fun z => absurd rfl z
  | none =>
    let ob : Obj := { cls := .type "list", data := .seq vs.toArray }
    let H : Hp := fun b => if b = a then some (.frz ob (.lst (ns.map V.int))) else none
    have at_ : H a = some (.frz ob (.lst (ns.map V.int))) := if_pos rfl
    have off : ∀ b, b ≠ a → H b = none := fun b c => if_neg c
    refine run H (fun b => ?_) (.inl ⟨ob, at_⟩) (fun b u z => ?_) (fun b z => ?_) fun _ => hk
    · by_cases c : b = a
      · subst c; exact .inr ⟨_, _, at_⟩
      · exact .inl (off b c)
    · by_cases c : b = a
      · subst c
        rw [at_] at z
        cases z
        exact ⟨ha, by rw [List.length_map]; exact hl, vs, _, rv, ha⟩
      · rw [off b c] at z; cases z
    · by_cases c : b = a
      · exact c
      · exact absurd (off b c) z
end Fx
end

section
set_option Elab.async false
set_option linter.all false
set_option maxRecDepth 100000
/-! Fx38: the walk that a head leaves, out of the evaluator's answers. -/
namespace Fx
open PySem PySem.Spec PyProof.Rows L2
variable {D : Dec}

/-- the law's own def, as the core function d -/
structure LawOf (K : PySem.W.Frag) (D : Dec) (x : Str) (fa : Addr) (d : Fn) : Prop where
  ex : ∃ (oc : Value) (od : Option Addr) (osl : Array (Option Value)) (name qual : Str) (params : Arguments) (body : List Stmt) (scope : Scope) (dV kV doc pm : Value) (an : Option Addr) (cdv ct : Value) (N : List Str),
    K.lookup fa = some ⟨oc, od, .func (PySem.W.fnOf name qual params body scope dV kV doc pm an cdv ct), osl⟩ ∧ PySem.W.codeIn K cdv qual = true ∧ FnScope N [x] scope ∧ chkSs D N scope d.body body = true ∧ N.length = d.nl ∧
    (∀ (s : Shared) (u : Value), BindsTo s (PySem.W.fnOf name qual params body scope dV kV doc pm an cdv ct) ⟨[u], []⟩ [(x, u)])
theorem walk_fx {P : List Fn} {W : Nat} {d0 : Fn} {l : PySem.W.OpenLaw} {n k : Nat} {q : Program} {loose : List Str} {XP : (Str → Option Value) → Heap → Prop} {YP : World → Heap → Prop} {d : DefRec} {x : Str}
    (hn : l.most = some n) (hn2 : n ≤ sizeLine) (hdf : d.params.defaults = []) (hr : Room (k + 1) callerA) (n1 : d0.np = 1) (hle : d0.np ≤ d0.nl)
    (hd : ∀ (w : World) (mg : Str → Option Value) (fa : Addr) (h : Heap), YP w h → h.Ns mainGlobals mg → mg d.name = some (.ref fa) → ∃ K : PySem.W.Frag, K.In h ∧ Mdl K mg w D P ∧ LawOf K D x fa d0)
    (ev : ∀ ns : List Int, ns.length ≤ n → ∃ (fl : Nat) (g' : List T), ((evalSs (evalF P W k) W d0.body ([T.fro (ns.map T.int)].map (fun t => some (t, 0)) ++ List.replicate (d0.nl - d0.np) none) []).bind fun f g => (match f with
        | .rt r => .ok (norm r) g
        | .nx _ => .ok (.non, 2) g
        | _ => .bad)) = Out.ok (.bl true, fl) g') :
    PySem.W.WalkO q loose XP YP l.row.toRowW d [] (fun f vs => PySem.call f vs) := by
  refine Att.attach_call hn hdf fun w s0 s1 mg mb fa o pm cd doc a vs ns G Y ho hd2 hcd hmg hobj hints hlen hg => ?_
  obtain ⟨K, KX, M, ⟨oc, od, osl, name, qual, params, body, scope, dV, kV, doc2, pm2, an, cdv, ct, N, lk, hc, S, ck, n2, hb⟩⟩ := hd w mg fa _ Y G.T.g hmg
  obtain ⟨fl, g', e⟩ := ev ns hlen
  exact law_top M k lk hc S ck n1 n2 hb KX G.T.g G.T.b G.T.builtins G.T.nolimit hg hobj hints (Nat.le_trans hlen hn2) hr hle e
end Fx
end

section
set_option Elab.async false
set_option linter.all false
set_option maxRecDepth 100000
/-! Fx39: a def's facts, from what a head tells. -/
namespace Fx
open PySem PySem.Spec PyProof.Rows L2
variable {D : Dec}

def scB (N ps : List Str) (sc : Scope) : Bool := decide (sc.kind = .function) && !sc.isCoroutine && !sc.isGenerator && decide N.Nodup && decide (N.take ps.length = ps) && (ps.all fun x => decide (sc.names.lookup x = some .local) || decide (sc.names.lookup x = some .cell)) && sc.names.all fun y => decide (y.2 ≠ .free)
theorem scB_ok {N ps : List Str} {sc : Scope} (h : scB N ps sc = true) : FnScope N ps sc := by
  obtain ⟨h, h7⟩ := band h
  obtain ⟨h, h6⟩ := band h
  obtain ⟨h, h5⟩ := band h
  obtain ⟨h, h4⟩ := band h
  obtain ⟨h, h3⟩ := band h
  obtain ⟨h1, h2⟩ := band h
  refine ⟨of_decide_eq_true h1, by simpa using h2, by simpa using h3, of_decide_eq_true h4, of_decide_eq_true h5, fun x hx => ?_, fun y hy => of_decide_eq_true (List.all_eq_true.mp h7 y hy)⟩
  exact (Bool.or_eq_true_iff.mp (List.all_eq_true.mp h6 x hx)).imp of_decide_eq_true of_decide_eq_true
/-- how a def binds what it is given by place -/
def BindP (x : Str) (params : Arguments) (body : List Stmt) (scope : Scope) (ps : List Str) : Prop :=
  ∀ (kV doc pm : Value) (an : Option Addr) (cdv ct : Value) (us : List Value), us.length = ps.length → bindArgs (PySem.W.fnOf x x params body scope .none kV doc pm an cdv ct) ⟨us, []⟩ = pure (ps.zip us)
/-- and by name -/
def BindK (x : Str) (params : Arguments) (body : List Stmt) (scope : Scope) (ps : List Str) (kw : List (List Str × List Nat)) : Prop :=
  ∀ p ∈ kw, p.2.length = ps.length ∧ ∀ (kV doc pm : Value) (an : Option Addr) (cdv ct : Value) (ws : List Value), ws.length = p.1.length → bindArgs (PySem.W.fnOf x x params body scope .none kV doc pm an cdv ct) ⟨[], p.1.zip ws⟩ = pure (ps.zip (p.2.map fun i => ws.getD i .none))
variable {K : PySem.W.Frag} {mg : Str → Option Value} {x : Str} {params : Arguments} {body : List Stmt} {scope : Scope} {f : Addr} {fd : FuncData} {N ps : List Str} {d : Fn} {kw : List (List Str × List Nat)}
theorem defOf_of (F : FunD K x x params body scope [] [] f fd) (hm : mg x = some (.ref f)) (hsc : scB N ps scope = true) (ck : chkSs D N scope d.body body = true) (n1 : ps.length = d.np) (n2 : N.length = d.nl)
    (hb : BindP x params body scope ps) (hk : BindK x params body scope ps kw) : DefOf K mg D x kw d := by
  obtain ⟨oc, od, dV, kV, doc, pm, an, cdv, ct, osl, rfl, lk, hcd, hD, _⟩ := F.ex
  rcases hD with ⟨_, rfl⟩ | ⟨e, _⟩
  · exact ⟨f, oc, od, osl, x, x, params, body, scope, .none, kV, doc, pm, an, cdv, ct, N, ps, hm, F.kp, lk, hcd, scB_ok hsc, fun s us hl => .of_eq (hb _ _ _ _ _ _ us hl), fun p hp s ws hl => ⟨.of_eq ((hk p hp).2 _ _ _ _ _ _ ws hl), (hk p hp).1⟩, ck, n1, n2⟩
  · exact absurd rfl e
theorem lawOf_of {y : Str} (F : FunD K x x params body scope [] [] f fd) (hsc : scB N [y] scope = true) (ck : chkSs D N scope d.body body = true) (n2 : N.length = d.nl)
    (hb : BindP x params body scope [y]) : LawOf K D y f d := by
  obtain ⟨oc, od, dV, kV, doc, pm, an, cdv, ct, osl, rfl, lk, hcd, hD, _⟩ := F.ex
  rcases hD with ⟨_, rfl⟩ | ⟨e, _⟩
  · exact ⟨oc, od, osl, x, x, params, body, scope, .none, kV, doc, pm, an, cdv, ct, N, lk, hcd, scB_ok hsc, ck, n2, fun s u => .of_eq (hb _ _ _ _ _ _ [u] rfl)⟩
  · exact absurd rfl e
end Fx
end

section
set_option Elab.async false
set_option linter.all false
set_option maxRecDepth 100000
/-! Core53: k53, the core program (printed by gen.py). -/
namespace Fx.K53
open PySem PySem.Spec PyProof.Rows L2 Fx
/-- is_whole -/
def N0 : List PySem.Str := ["value"]
def b0 : Ss := (.cons (.ret [0] (.and (.isi (.var 0) [.int]) (.not (.isi (.var 0) [.bool]))))
  .nil)
def f0 : Fn := ⟨1, 1, b0⟩
/-- is_count -/
def N1 : List PySem.Str := ["value"]
def b1 : Ss := (.cons (.ret [0] (.and (.call 0 (.cons (.var 0) .nil)) (.cmp .GtE (.var 0) (.lit (.int 0)))))
  .nil)
def f1 : Fn := ⟨1, 1, b1⟩
/-- is_below -/
def N2 : List PySem.Str := ["value", "bound"]
def b2 : Ss := (.cons (.ret [0, 1] (.and (.call 1 (.cons (.var 0) .nil)) (.cmp .Lt (.var 0) (.var 1))))
  .nil)
def f2 : Fn := ⟨2, 2, b2⟩
/-- is_name_in -/
def N3 : List PySem.Str := ["value", "sign"]
def b3 : Ss := (.cons (.ifs [0] (.or (.not (.isi (.var 0) [.str])) (.or (.not (.chain .LtE .LtE (.lit (.int 1)) (.bi .len (.cons (.var 0) .nil)) (.lit (.int 12)))) (.cmp .NotIn (.idx (.var 0) (.lit (.int 0))) (.lit (.str [97, 98, 99, 100, 101, 102, 103, 104, 105, 106, 107, 108, 109, 110, 111, 112, 113, 114, 115, 116, 117, 118, 119, 120, 121, 122]))))) (.cons (.ret [] (.lit (.bl false)))
  .nil) .nil)
  (.cons (.ret [0, 1] (.cmp .Eq (.comp (.var 1) [1] (.one 1) (.seq (.var 0)) (.and (.cmp .NotIn (.var 1) (.lit (.str [97, 98, 99, 100, 101, 102, 103, 104, 105, 106, 107, 108, 109, 110, 111, 112, 113, 114, 115, 116, 117, 118, 119, 120, 121, 122]))) (.cmp .NotIn (.var 1) (.lit (.str [48, 49, 50, 51, 52, 53, 54, 55, 56, 57]))))) (.lst .nil)))
  .nil))
def f3 : Fn := ⟨1, 2, b3⟩
/-- is_shaped -/
def N4 : List PySem.Str := ["value"]
def b4 : Ss := (.cons (.ifs [0] (.or (.not (.isi (.var 0) [.tuple])) (.or (.cmp .Eq (.var 0) (.tup .nil)) (.not (.isi (.idx (.var 0) (.lit (.int 0))) [.str])))) (.cons (.ret [] (.lit (.bl false)))
  .nil) .nil)
  (.cons (.ifs [0] (.cmp .Eq (.idx (.var 0) (.lit (.int 0))) (.lit (.str [105, 115]))) (.cons (.ret [0] (.and (.cmp .Eq (.bi .len (.cons (.var 0) .nil)) (.lit (.int 2))) (.call 3 (.cons (.idx (.var 0) (.lit (.int 1))) .nil))))
  .nil) .nil)
  (.cons (.ret [0] (.or (.cmp .Eq (.var 0) (.lit (.tup [(.str [110, 111])]))) (.and (.cmp .In (.idx (.var 0) (.lit (.int 0))) (.lit (.tup [(.str [97, 110, 100]), (.str [111, 114]), (.str [116, 104, 101, 110])]))) (.cmp .Eq (.bi .len (.cons (.var 0) .nil)) (.lit (.int 3))))))
  .nil)))
def f4 : Fn := ⟨1, 1, b4⟩
/-- inner_of -/
def N5 : List PySem.Str := ["formula"]
def b5 : Ss := (.cons (.ret [0] (.ite (.cmp .In (.idx (.var 0) (.lit (.int 0))) (.lit (.tup [(.str [97, 110, 100]), (.str [111, 114]), (.str [116, 104, 101, 110])]))) (.bi .lis (.cons (.slc (.var 0) (.lit (.int 1)) (.lit .non)) .nil)) (.lst .nil)))
  .nil)
def f5 : Fn := ⟨1, 1, b5⟩
/-- levels_of -/
def N6 : List PySem.Str := ["value", "level", "told", "signs", "formula", "one"]
def b6 : Ss := (.cons (.par [1, 2, 3] [0] (.cons (.lst (.cons (.var 0) .nil)) (.cons (.lst .nil) (.cons (.lit (.int 0)) .nil))))
  (.cons (.whl [1] (.cmp .NotEq (.var 1) (.lst .nil)) (.cons (.set 3 [1, 3] (.bin .add (.var 3) (.bi .len (.cons (.var 1) .nil))))
  (.cons (.ifs [1, 2, 3, 5] (.or (.cmp .Eq (.bi .len (.cons (.var 2) .nil)) (.lit (.int 60))) (.or (.cmp .Gt (.var 3) (.lit (.int 200))) (.cmp .NotEq (.comp (.var 5) [5] (.one 5) (.seq (.var 1)) (.not (.call 4 (.cons (.var 5) .nil)))) (.lst .nil)))) (.cons (.ret [] (.lit (.non)))
  .nil) .nil)
  (.cons (.app 2 [1] (.var 1))
  (.cons (.set 1 [1, 4] (.bi .sumL (.cons (.comp (.call 5 (.cons (.var 4) .nil)) [4] (.one 4) (.seq (.var 1)) (.lit (.bl true))) (.cons (.lst .nil) .nil))))
  .nil)))))
  (.cons (.retV 2)
  .nil)))
def f6 : Fn := ⟨1, 6, b6⟩
/-- is_formula_in -/
def N7 : List PySem.Str := ["value"]
def b7 : Ss := (.cons (.ret [0] (.cmp .IsNot (.call 6 (.cons (.var 0) .nil)) (.lit (.non))))
  .nil)
def f7 : Fn := ⟨1, 1, b7⟩
/-- check_formula -/
def N8 : List PySem.Str := ["formula"]
def b8 : Ss := (.cons (.ifs [0] (.not (.call 7 (.cons (.var 0) .nil))) (.cons (.rai)
  .nil) .nil)
  .nil)
def f8 : Fn := ⟨1, 1, b8⟩
/-- are_assumptions_in -/
def N9 : List PySem.Str := ["value", "formula"]
def b9 : Ss := (.cons (.ifs [0] (.or (.not (.isi (.var 0) [.list])) (.cmp .Gt (.bi .len (.cons (.var 0) .nil)) (.lit (.int 20)))) (.cons (.ret [] (.lit (.bl false)))
  .nil) .nil)
  (.cons (.ret [0, 1] (.cmp .Eq (.comp (.var 1) [1] (.one 1) (.seq (.var 0)) (.not (.call 7 (.cons (.var 1) .nil)))) (.lst .nil)))
  .nil))
def f9 : Fn := ⟨1, 2, b9⟩
/-- check_assumptions -/
def N10 : List PySem.Str := ["assumptions"]
def b10 : Ss := (.cons (.ifs [0] (.not (.call 9 (.cons (.var 0) .nil))) (.cons (.rai)
  .nil) .nil)
  .nil)
def f10 : Fn := ⟨1, 1, b10⟩
/-- parts_in -/
def N11 : List PySem.Str := ["formula", "told", "stack", "part"]
def b11 : Ss := (.cons (.par [1, 2] [0] (.cons (.lst .nil) (.cons (.lst (.cons (.var 0) .nil)) .nil)))
  (.cons (.whl [2] (.cmp .NotEq (.var 2) (.lst .nil)) (.cons (.pop 3 2)
  (.cons (.app 1 [3] (.var 3))
  (.cons (.set 2 [2, 3] (.bin .add (.var 2) (.rev (.call 5 (.cons (.var 3) .nil)))))
  .nil))))
  (.cons (.retV 1)
  .nil)))
def f11 : Fn := ⟨1, 4, b11⟩
/-- is_rising -/
def N12 : List PySem.Str := ["value", "at"]
def b12 : Ss := (.cons (.ret [0, 1] (.cmp .Eq (.comp (.var 1) [1] (.one 1) (.rng2 (.lit (.int 1)) (.bi .len (.cons (.var 0) .nil))) (.cmp .GtE (.idx (.var 0) (.bin .sub (.var 1) (.lit (.int 1)))) (.idx (.var 0) (.var 1)))) (.lst .nil)))
  .nil)
def f12 : Fn := ⟨1, 2, b12⟩
/-- is_list_of_worlds -/
def N13 : List PySem.Str := ["value", "many", "one"]
def b13 : Ss := (.cons (.ret [0, 1, 2] (.and (.isi (.var 0) [.list]) (.and (.cmp .Eq (.comp (.var 2) [2] (.one 2) (.seq (.var 0)) (.not (.call 2 (.cons (.var 2) (.cons (.var 1) .nil))))) (.lst .nil)) (.call 12 (.cons (.var 0) .nil)))))
  .nil)
def f13 : Fn := ⟨2, 3, b13⟩
/-- is_list_of_names -/
def N14 : List PySem.Str := ["value", "name"]
def b14 : Ss := (.cons (.ret [0, 1] (.and (.isi (.var 0) [.list]) (.and (.cmp .Eq (.comp (.var 1) [1] (.one 1) (.seq (.var 0)) (.not (.call 3 (.cons (.var 1) .nil)))) (.lst .nil)) (.call 12 (.cons (.var 0) .nil)))))
  .nil)
def f14 : Fn := ⟨1, 2, b14⟩
/-- are_ups -/
def N15 : List PySem.Str := ["ups", "many", "world", "up", "one", "far"]
def b15 : Ss := (.cons (.ifs [0, 1, 3] (.or (.cmp .NotEq (.comp (.var 3) [3] (.one 3) (.seq (.var 0)) (.not (.call 13 (.cons (.var 3) (.cons (.var 1) .nil))))) (.lst .nil)) (.cmp .NotEq (.idx (.var 0) (.lit (.int 0))) (.lrng1 (.var 1)))) (.cons (.ret [] (.lit (.bl false)))
  .nil) .nil)
  (.cons (.for_ (.many [2, 3]) [0] (.enum (.var 0)) (.cons (.ifs [0, 2, 3, 4, 5] (.or (.cmp .NotIn (.var 2) (.var 3)) (.cmp .NotEq (.comp (.var 4) [4] (.one 4) (.seq (.var 3)) (.cmp .NotEq (.comp (.var 5) [5] (.one 5) (.seq (.idx (.var 0) (.var 4))) (.cmp .NotIn (.var 5) (.var 3))) (.lst .nil))) (.lst .nil))) (.cons (.ret [] (.lit (.bl false)))
  .nil) .nil)
  (.cons (.ifs [0, 2, 3, 4] (.cmp .NotEq (.comp (.var 4) [4] (.one 4) (.seq (.var 3)) (.and (.cmp .NotEq (.var 4) (.var 2)) (.cmp .In (.var 2) (.idx (.var 0) (.var 4))))) (.lst .nil)) (.cons (.ret [] (.lit (.bl false)))
  .nil) .nil)
  .nil)))
  (.cons (.ret [] (.lit (.bl true)))
  .nil)))
def f15 : Fn := ⟨2, 6, b15⟩
/-- is_order_in -/
def N16 : List PySem.Str := ["value", "ups", "letters", "world", "up", "one", "names", "name"]
def b16 : Ss := (.cons (.ifs [0] (.or (.not (.isi (.var 0) [.tuple])) (.cmp .NotEq (.bi .len (.cons (.var 0) .nil)) (.lit (.int 2)))) (.cons (.ret [] (.lit (.bl false)))
  .nil) .nil)
  (.cons (.unp [1, 2] [0] (.var 0))
  (.cons (.ifs [1, 2] (.or (.not (.isi (.var 1) [.list])) (.not (.isi (.var 2) [.list]))) (.cons (.ret [] (.lit (.bl false)))
  .nil) .nil)
  (.cons (.ifs [1, 2] (.or (.not (.chain .LtE .LtE (.lit (.int 1)) (.bi .len (.cons (.var 1) .nil)) (.lit (.int 60)))) (.or (.cmp .NotEq (.bi .len (.cons (.var 2) .nil)) (.bi .len (.cons (.var 1) .nil))) (.not (.call 15 (.cons (.var 1) (.cons (.bi .len (.cons (.var 1) .nil)) .nil)))))) (.cons (.ret [] (.lit (.bl false)))
  .nil) .nil)
  (.cons (.ifs [2, 6] (.cmp .NotEq (.comp (.var 6) [6] (.one 6) (.seq (.var 2)) (.not (.call 14 (.cons (.var 6) .nil)))) (.lst .nil)) (.cons (.ret [] (.lit (.bl false)))
  .nil) .nil)
  (.cons (.for_ (.many [3, 4]) [1] (.enum (.var 1)) (.cons (.for_ (.one 5) [4] (.seq (.var 4)) (.cons (.ifs [2, 3, 5, 7] (.cmp .NotEq (.comp (.var 7) [7] (.one 7) (.seq (.idx (.var 2) (.var 3))) (.cmp .NotIn (.var 7) (.idx (.var 2) (.var 5)))) (.lst .nil)) (.cons (.ret [] (.lit (.bl false)))
  .nil) .nil)
  .nil))
  .nil))
  (.cons (.ret [] (.lit (.bl true)))
  .nil)))))))
def f16 : Fn := ⟨1, 8, b16⟩
/-- is_order -/
def N17 : List PySem.Str := ["value"]
def b17 : Ss := (.cons (.ret [0] (.call 16 (.cons (.var 0) .nil)))
  .nil)
def f17 : Fn := ⟨1, 1, b17⟩
/-- check_order -/
def N18 : List PySem.Str := ["order"]
def b18 : Ss := (.cons (.ifs [0] (.not (.call 16 (.cons (.var 0) .nil))) (.cons (.rai)
  .nil) .nil)
  .nil)
def f18 : Fn := ⟨1, 1, b18⟩
/-- worlds_by -/
def N19 : List PySem.Str := ["order", "formula", "known", "ups", "letters", "first", "second", "up", "names", "one", "other"]
def b19 : Ss := (.cons (.unp [3, 4] [0] (.var 0))
  (.cons (.ifs [1] (.cmp .Eq (.idx (.var 1) (.lit (.int 0))) (.lit (.str [105, 115]))) (.cons (.ret [1, 4, 8] (.comp (.cmp .In (.idx (.var 1) (.lit (.int 1))) (.var 8)) [8] (.one 8) (.seq (.var 4)) (.lit (.bl true))))
  .nil) .nil)
  (.cons (.ifs [1] (.cmp .Eq (.idx (.var 1) (.lit (.int 0))) (.lit (.str [110, 111]))) (.cons (.ret [3, 7] (.comp (.lit (.bl false)) [7] (.one 7) (.seq (.var 3)) (.lit (.bl true))))
  .nil) .nil)
  (.cons (.unp [5, 6] [1, 2] (.tup (.cons (.idx (.var 2) (.idx (.var 1) (.lit (.int 1)))) (.cons (.idx (.var 2) (.idx (.var 1) (.lit (.int 2)))) .nil))))
  (.cons (.ifs [1] (.cmp .Eq (.idx (.var 1) (.lit (.int 0))) (.lit (.str [97, 110, 100]))) (.cons (.ret [5, 6, 9, 10] (.comp (.and (.var 9) (.var 10)) [9, 10] (.many [9, 10]) (.zip (.var 5) (.var 6)) (.lit (.bl true))))
  .nil) .nil)
  (.cons (.ifs [1] (.cmp .Eq (.idx (.var 1) (.lit (.int 0))) (.lit (.str [111, 114]))) (.cons (.ret [5, 6, 9, 10] (.comp (.or (.var 9) (.var 10)) [9, 10] (.many [9, 10]) (.zip (.var 5) (.var 6)) (.lit (.bl true))))
  .nil) .nil)
  (.cons (.ret [3, 5, 6, 7, 9] (.comp (.cmp .Eq (.comp (.var 9) [9] (.one 9) (.seq (.var 7)) (.and (.idx (.var 5) (.var 9)) (.not (.idx (.var 6) (.var 9))))) (.lst .nil)) [7] (.one 7) (.seq (.var 3)) (.lit (.bl true))))
  .nil)))))))
def f19 : Fn := ⟨3, 11, b19⟩
/-- standing_in -/
def N20 : List PySem.Str := ["order", "formula", "known", "part"]
def b20 : Ss := (.cons (.set 2 [] (.dic0 true))
  (.cons (.for_ (.one 3) [1] (.seq (.rev (.call 11 (.cons (.var 1) .nil)))) (.cons (.ifs [2, 3] (.cmp .NotIn (.var 3) (.var 2)) (.cons (.seti 2 [0, 2, 3] [3] (.var 3) (.call 19 (.cons (.var 0) (.cons (.var 3) (.cons (.var 2) .nil)))))
  .nil) .nil)
  .nil))
  (.cons (.ret [1, 2] (.idx (.var 2) (.var 1)))
  .nil)))
def f20 : Fn := ⟨2, 4, b20⟩
/-- stands -/
def N21 : List PySem.Str := ["order", "formula", "world"]
def b21 : Ss := (.cons (.exp [0] (.call 18 (.cons (.var 0) .nil)))
  (.cons (.exp [1] (.call 8 (.cons (.var 1) .nil)))
  (.cons (.ifs [0, 2] (.not (.call 2 (.cons (.var 2) (.cons (.bi .len (.cons (.idx (.var 0) (.lit (.int 0))) .nil)) .nil)))) (.cons (.rai)
  .nil) .nil)
  (.cons (.ret [0, 1, 2] (.idx (.call 20 (.cons (.var 0) (.cons (.var 1) .nil))) (.var 2)))
  .nil))))
def f21 : Fn := ⟨3, 3, b21⟩
/-- worlds_of -/
def N22 : List PySem.Str := ["order", "formula", "world", "told"]
def b22 : Ss := (.cons (.exp [0] (.call 18 (.cons (.var 0) .nil)))
  (.cons (.exp [1] (.call 8 (.cons (.var 1) .nil)))
  (.cons (.ret [0, 1, 2, 3] (.comp (.var 2) [2, 3] (.many [2, 3]) (.enum (.call 20 (.cons (.var 0) (.cons (.var 1) .nil)))) (.var 3)))
  .nil)))
def f22 : Fn := ⟨2, 4, b22⟩
/-- is_against_in -/
def N23 : List PySem.Str := ["assumptions", "formula", "order", "one"]
def b23 : Ss := (.cons (.ifs [0, 2, 3] (.cmp .NotEq (.comp (.var 3) [3] (.one 3) (.seq (.var 0)) (.not (.idx (.call 20 (.cons (.var 2) (.cons (.var 3) .nil))) (.lit (.int 0))))) (.lst .nil)) (.cons (.ret [] (.lit (.bl false)))
  .nil) .nil)
  (.cons (.ret [1, 2] (.not (.idx (.call 20 (.cons (.var 2) (.cons (.var 1) .nil))) (.lit (.int 0)))))
  .nil))
def f23 : Fn := ⟨3, 4, b23⟩
/-- is_against -/
def N24 : List PySem.Str := ["assumptions", "formula", "value"]
def b24 : Ss := (.cons (.exp [0] (.call 10 (.cons (.var 0) .nil)))
  (.cons (.exp [1] (.call 8 (.cons (.var 1) .nil)))
  (.cons (.ret [0, 1, 2] (.and (.call 16 (.cons (.var 2) .nil)) (.call 23 (.cons (.var 0) (.cons (.var 1) (.cons (.var 2) .nil))))))
  .nil)))
def f24 : Fn := ⟨3, 3, b24⟩
/-- raised_worlds -/
def N25 : List PySem.Str := ["ups", "number", "up", "one"]
def b25 : Ss := (.cons (.ret [0, 1, 2, 3] (.comp (.comp (.bin .add (.var 3) (.var 1)) [3] (.one 3) (.seq (.var 2)) (.lit (.bl true))) [2] (.one 2) (.seq (.var 0)) (.lit (.bl true))))
  .nil)
def f25 : Fn := ⟨2, 4, b25⟩
/-- beside -/
def N26 : List PySem.Str := ["order", "other_order", "many", "ups", "letters", "names"]
def b26 : Ss := (.cons (.set 2 [0] (.bi .len (.cons (.idx (.var 0) (.lit (.int 0))) .nil)))
  (.cons (.set 3 [0, 1, 2] (.bin .add (.call 25 (.cons (.idx (.var 0) (.lit (.int 0))) (.cons (.lit (.int 1)) .nil))) (.call 25 (.cons (.idx (.var 1) (.lit (.int 0))) (.cons (.bin .add (.var 2) (.lit (.int 1))) .nil)))))
  (.cons (.set 4 [0, 1, 5] (.comp (.bi .lis (.cons (.var 5) .nil)) [5] (.one 5) (.seq (.bin .add (.idx (.var 0) (.lit (.int 1))) (.idx (.var 1) (.lit (.int 1))))) (.lit (.bl true))))
  (.cons (.ret [3, 4] (.tup (.cons (.bin .add (.lst (.cons (.lrng1 (.bin .add (.bi .len (.cons (.var 3) .nil)) (.lit (.int 1)))) .nil)) (.var 3)) (.cons (.bin .add (.lst (.cons (.lst .nil) .nil)) (.var 4)) .nil))))
  .nil))))
def f26 : Fn := ⟨2, 6, b26⟩
/-- joined -/
def N27 : List PySem.Str := ["order", "other_order"]
def b27 : Ss := (.cons (.exp [0] (.call 18 (.cons (.var 0) .nil)))
  (.cons (.exp [1] (.call 18 (.cons (.var 1) .nil)))
  (.cons (.ifs [0, 1] (.cmp .Gt (.bin .add (.bin .add (.bi .len (.cons (.idx (.var 0) (.lit (.int 0))) .nil)) (.bi .len (.cons (.idx (.var 1) (.lit (.int 0))) .nil))) (.lit (.int 1))) (.lit (.int 60))) (.cons (.rai)
  .nil) .nil)
  (.cons (.ret [0, 1] (.call 26 (.cons (.var 0) (.cons (.var 1) .nil))))
  .nil))))
def f27 : Fn := ⟨2, 2, b27⟩
/-- parts_by -/
def N28 : List PySem.Str := ["ups", "letters", "marks", "further", "told", "names", "world", "up", "one"]
def b28 : Ss := (.cons (.set 2 [1, 5] (.call 29 (.cons (.comp (.bi .repr (.cons (.var 5) .nil)) [5] (.one 5) (.seq (.var 1)) (.lit (.bl true))) .nil)))
  (.cons (.whl [] (.lit (.bl true)) (.cons (.set 3 [0, 2, 6, 7, 8] (.comp (.tup (.cons (.idx (.var 2) (.var 6)) (.cons (.bi .sortSet (.cons (.comp (.idx (.var 2) (.var 8)) [8] (.one 8) (.seq (.var 7)) (.lit (.bl true))) .nil)) .nil))) [6, 7] (.many [6, 7]) (.enum (.var 0)) (.lit (.bl true))))
  (.cons (.set 4 [3, 8] (.call 29 (.cons (.comp (.bi .repr (.cons (.var 8) .nil)) [8] (.one 8) (.seq (.var 3)) (.lit (.bl true))) .nil)))
  (.cons (.ifs [2, 4] (.cmp .Eq (.bi .lenSet (.cons (.var 4) .nil)) (.bi .lenSet (.cons (.var 2) .nil))) (.cons (.retV 4)
  .nil) .nil)
  (.cons (.set 2 [4] (.var 4))
  .nil)))))
  .nil))
def f28 : Fn := ⟨2, 9, b28⟩
/-- numbered_marks -/
def N29 : List PySem.Str := ["words", "numbers", "word"]
def b29 : Ss := (.cons (.set 1 [] (.dic0 false))
  (.cons (.for_ (.one 2) [0] (.seq (.var 0)) (.cons (.ifs [1, 2] (.cmp .NotIn (.var 2) (.var 1)) (.cons (.seti 1 [1] [2] (.var 2) (.bi .len (.cons (.var 1) .nil)))
  .nil) .nil)
  .nil))
  (.cons (.ret [0, 1, 2] (.comp (.idx (.var 1) (.var 2)) [2] (.one 2) (.seq (.var 0)) (.lit (.bl true))))
  .nil)))
def f29 : Fn := ⟨1, 3, b29⟩
/-- alike_in -/
def N30 : List PySem.Str := ["order", "marks", "number", "world", "mark"]
def b30 : Ss := (.cons (.set 1 [0] (.call 28 (.cons (.idx (.var 0) (.lit (.int 0))) (.cons (.idx (.var 0) (.lit (.int 1))) .nil))))
  (.cons (.ret [1, 2, 3, 4] (.comp (.comp (.var 3) [3, 4] (.many [3, 4]) (.enum (.var 1)) (.cmp .Eq (.var 4) (.var 2))) [2] (.one 2) (.rng1 (.bi .lenSet (.cons (.var 1) .nil))) (.lit (.bl true))))
  .nil))
def f30 : Fn := ⟨1, 5, b30⟩
/-- alike_parts -/
def N31 : List PySem.Str := ["order"]
def b31 : Ss := (.cons (.exp [0] (.call 18 (.cons (.var 0) .nil)))
  (.cons (.ret [0] (.call 30 (.cons (.var 0) .nil)))
  .nil))
def f31 : Fn := ⟨1, 1, b31⟩
/-- made_short -/
def N32 : List PySem.Str := ["order", "ups", "parts", "marks", "part", "one"]
def b32 : Ss := (.cons (.exp [0] (.call 18 (.cons (.var 0) .nil)))
  (.cons (.unp [2, 3] [0] (.tup (.cons (.call 30 (.cons (.var 0) .nil)) (.cons (.call 28 (.cons (.idx (.var 0) (.lit (.int 0))) (.cons (.idx (.var 0) (.lit (.int 1))) .nil))) .nil))))
  (.cons (.set 1 [0, 2, 3, 4, 5] (.comp (.bi .sortSet (.cons (.comp (.idx (.var 3) (.var 5)) [5] (.one 5) (.seq (.idx (.idx (.var 0) (.lit (.int 0))) (.idx (.var 4) (.lit (.int 0))))) (.lit (.bl true))) .nil)) [4] (.one 4) (.seq (.var 2)) (.lit (.bl true))))
  (.cons (.retT 1 [0, 2, 4] (.cons (.comp (.bi .lis (.cons (.idx (.idx (.var 0) (.lit (.int 1))) (.idx (.var 4) (.lit (.int 0)))) .nil)) [4] (.one 4) (.seq (.var 2)) (.lit (.bl true))) .nil))
  .nil))))
def f32 : Fn := ⟨1, 6, b32⟩
/-- are_alike_orders -/
def N33 : List PySem.Str := ["order", "other_order", "marks", "ups", "letters"]
def b33 : Ss := (.cons (.exp [0] (.call 18 (.cons (.var 0) .nil)))
  (.cons (.exp [1] (.call 18 (.cons (.var 1) .nil)))
  (.cons (.unp [3, 4] [0, 1] (.call 26 (.cons (.var 0) (.cons (.var 1) .nil))))
  (.cons (.set 2 [3, 4] (.call 28 (.cons (.var 3) (.cons (.var 4) .nil))))
  (.cons (.ret [0, 2] (.cmp .Eq (.idx (.var 2) (.lit (.int 1))) (.idx (.var 2) (.bin .add (.bi .len (.cons (.idx (.var 0) (.lit (.int 0))) .nil)) (.lit (.int 1))))))
  .nil)))))
def f33 : Fn := ⟨2, 5, b33⟩
/-- _law_hash -/
def N34 : List PySem.Str := ["seed", "index", "mixed"]
def b34 : Ss := (.cons (.set 2 [0, 1] (.bin .mod (.bi .int1 (.cons (.bin .add (.bin .add (.bin .add (.bin .mul (.var 0) (.lit (.int 1140671))) (.bin .mul (.bin .mul (.lit (.int 27644437)) (.var 1)) (.var 1))) (.bin .mul (.lit (.int 131)) (.var 1))) (.lit (.int 19))) .nil)) (.lit (.int 2147483629))))
  (.cons (.set 2 [1, 2] (.bin .mod (.bi .int1 (.cons (.bin .add (.bin .add (.bin .mul (.var 2) (.var 2)) (.bin .mul (.lit (.int 62089)) (.var 1))) (.lit (.int 32416187))) .nil)) (.lit (.int 2147483587))))
  (.cons (.ret [2] (.bin .mod (.bi .int1 (.cons (.bin .mul (.var 2) (.lit (.int 48271))) .nil)) (.lit (.int 2147483647))))
  .nil)))
def f34 : Fn := ⟨2, 3, b34⟩
/-- _law_random -/
def N35 : List PySem.Str := ["generator", "bound", "drawn", "turn"]
def b35 : Ss := (.cons (.ifs [0] (.cmp .Gt (.idx (.var 0) (.lit (.int 0))) (.lit (.int 0))) (.cons (.set 2 [0, 1] (.bin .mod (.bi .int1 (.cons (.idx (.var 0) (.lit (.int 0))) .nil)) (.var 1)))
  (.cons (.seti 0 [0, 1] [] (.lit (.int 0)) (.bin .fdiv (.idx (.var 0) (.lit (.int 0))) (.var 1)))
  (.cons (.retV 2)
  .nil))) .nil)
  (.cons (.set 2 [] (.lit (.int 0)))
  (.cons (.for_ (.one 3) [1] (.rng1 (.bin .add (.lit (.int 1)) (.bin .fdiv (.bi .bits (.cons (.var 1) .nil)) (.lit (.int 30))))) (.cons (.seti 0 [0] [] (.lit (.int 2)) (.bin .add (.idx (.var 0) (.lit (.int 2))) (.lit (.int 1))))
  (.cons (.set 2 [0, 2] (.bin .add (.bin .mul (.var 2) (.lit (.int 2147483587))) (.call 34 (.cons (.idx (.var 0) (.lit (.int 1))) (.cons (.idx (.var 0) (.lit (.int 2))) .nil)))))
  .nil)))
  (.cons (.ret [1, 2] (.bin .mod (.bi .int1 (.cons (.var 2) .nil)) (.var 1)))
  .nil))))
def f35 : Fn := ⟨2, 4, b35⟩
/-- _law_cell -/
def N36 : List PySem.Str := ["script", "index"]
def b36 : Ss := (.cons (.ifs [0, 1] (.cmp .Lt (.var 1) (.bi .len (.cons (.var 0) .nil))) (.cons (.ret [0, 1] (.idx (.var 0) (.var 1)))
  .nil) .nil)
  (.cons (.ret [0] (.bin .mod (.bi .sumI (.cons (.slc (.var 0) (.lit .non) (.lit (.int 1))) .nil)) (.lit (.int 1000003))))
  .nil))
def f36 : Fn := ⟨2, 2, b36⟩
/-- _law_generator -/
def N37 : List PySem.Str := ["script", "index", "seed"]
def b37 : Ss := (.cons (.set 2 [0, 1] (.call 36 (.cons (.var 0) (.cons (.var 1) .nil))))
  (.cons (.ret [1, 2] (.lst (.cons (.bin .mod (.bi .int1 (.cons (.bi .max2 (.cons (.bin .sub (.var 2) (.bin .pow (.lit (.int 10)) (.lit (.int 18)))) (.cons (.lit (.int 0)) .nil))) .nil)) (.bin .pow (.bin .pow (.lit (.int 10)) (.lit (.int 60))) (.lit (.int 10)))) (.cons (.bin .mod (.bi .int1 (.cons (.var 2) .nil)) (.lit (.int 2147483647))) (.cons (.bin .mul (.lit (.int 1000)) (.var 1)) .nil)))))
  .nil))
def f37 : Fn := ⟨2, 3, b37⟩
/-- _law_pick -/
def N38 : List PySem.Str := ["generator", "things"]
def b38 : Ss := (.cons (.ret [0, 1] (.idx (.var 1) (.call 35 (.cons (.var 0) (.cons (.bi .len (.cons (.var 1) .nil)) .nil)))))
  .nil)
def f38 : Fn := ⟨2, 2, b38⟩
/-- _law_same -/
def N39 : List PySem.Str := ["told", "due", "at"]
def b39 : Ss := (.cons (.ifs [1] (.or (.cmp .Is (.var 1) (.lit (.non))) (.or (.cmp .Is (.var 1) (.lit (.bl true))) (.cmp .Is (.var 1) (.lit (.bl false))))) (.cons (.ret [0, 1] (.ite (.cmp .Is (.var 1) (.lit (.non))) (.cmp .Is (.var 0) (.lit (.non))) (.ite (.cmp .Is (.var 1) (.lit (.bl true))) (.cmp .Is (.var 0) (.lit (.bl true))) (.cmp .Is (.var 0) (.lit (.bl false))))))
  .nil) .nil)
  (.cons (.ifs [1] (.isi (.var 1) [.list, .tuple]) (.cons (.ifs [0, 1] (.or (.and (.not (.isi (.var 0) [.list])) (.isi (.var 1) [.list])) (.and (.not (.isi (.var 0) [.tuple])) (.isi (.var 1) [.tuple]))) (.cons (.ret [] (.lit (.bl false)))
  .nil) .nil)
  (.cons (.ret [0, 1, 2] (.and (.cmp .Eq (.bi .len (.cons (.var 0) .nil)) (.bi .len (.cons (.var 1) .nil))) (.cmp .Eq (.comp (.var 2) [2] (.one 2) (.rng1 (.bi .len (.cons (.var 1) .nil))) (.not (.call 39 (.cons (.idx (.var 0) (.var 2)) (.cons (.idx (.var 1) (.var 2)) .nil))))) (.lst .nil))))
  .nil)) .nil)
  (.cons (.ifs [1] (.isi (.var 1) [.int]) (.cons (.ret [0, 1] (.and (.isi (.var 0) [.int]) (.and (.not (.isi (.var 0) [.bool])) (.cmp .Eq (.var 0) (.var 1)))))
  .nil) .nil)
  (.cons (.ret [0, 1] (.and (.isi (.var 0) [.str]) (.cmp .Eq (.var 0) (.var 1))))
  .nil))))
def f39 : Fn := ⟨2, 3, b39⟩
/-- _law_some_formula -/
def N40 : List PySem.Str := ["generator", "letters", "deep", "way", "word"]
def b40 : Ss := (.cons (.set 3 [0, 2] (.ite (.cmp .Gt (.var 2) (.lit (.int 0))) (.call 35 (.cons (.var 0) (.cons (.lit (.int 10)) .nil))) (.call 35 (.cons (.var 0) (.cons (.lit (.int 4)) .nil)))))
  (.cons (.ifs [3] (.cmp .Lt (.var 3) (.lit (.int 3))) (.cons (.ret [0, 1] (.tup (.cons (.lit (.str [105, 115])) (.cons (.call 38 (.cons (.var 0) (.cons (.var 1) .nil))) .nil))))
  .nil) .nil)
  (.cons (.ifs [3] (.cmp .Eq (.var 3) (.lit (.int 3))) (.cons (.ret [] (.tup (.cons (.lit (.str [110, 111])) .nil)))
  .nil) .nil)
  (.cons (.ifs [3] (.cmp .Eq (.var 3) (.lit (.int 4))) (.cons (.ret [0, 1, 2] (.tup (.cons (.lit (.str [116, 104, 101, 110])) (.cons (.call 40 (.cons (.var 0) (.cons (.var 1) (.cons (.bin .sub (.var 2) (.lit (.int 1))) .nil)))) (.cons (.tup (.cons (.lit (.str [110, 111])) .nil)) .nil)))))
  .nil) .nil)
  (.cons (.set 4 [0] (.call 38 (.cons (.var 0) (.cons (.lst (.cons (.lit (.str [97, 110, 100])) (.cons (.lit (.str [111, 114])) (.cons (.lit (.str [116, 104, 101, 110])) (.cons (.lit (.str [116, 104, 101, 110])) .nil))))) .nil))))
  (.cons (.retT 4 [0, 1, 2] (.cons (.call 40 (.cons (.var 0) (.cons (.var 1) (.cons (.bin .sub (.var 2) (.lit (.int 1))) .nil)))) (.cons (.call 40 (.cons (.var 0) (.cons (.var 1) (.cons (.bin .sub (.var 2) (.lit (.int 1))) .nil)))) .nil)))
  .nil))))))
def f40 : Fn := ⟨3, 5, b40⟩
/-- _law_worlds_by -/
def N41 : List PySem.Str := ["order", "formula", "ups", "letters", "one", "other", "up", "names", "world", "far"]
def b41 : Ss := (.cons (.unp [2, 3] [0] (.var 0))
  (.cons (.ifs [1] (.cmp .Eq (.idx (.var 1) (.lit (.int 0))) (.lit (.str [105, 115]))) (.cons (.ret [1, 3, 7] (.comp (.cmp .In (.idx (.var 1) (.lit (.int 1))) (.var 7)) [7] (.one 7) (.seq (.var 3)) (.lit (.bl true))))
  .nil) .nil)
  (.cons (.ifs [1] (.cmp .Eq (.idx (.var 1) (.lit (.int 0))) (.lit (.str [110, 111]))) (.cons (.ret [2, 6] (.comp (.lit (.bl false)) [6] (.one 6) (.seq (.var 2)) (.lit (.bl true))))
  .nil) .nil)
  (.cons (.unp [4, 5] [0, 1] (.tup (.cons (.call 41 (.cons (.var 0) (.cons (.idx (.var 1) (.lit (.int 1))) .nil))) (.cons (.call 41 (.cons (.var 0) (.cons (.idx (.var 1) (.lit (.int 2))) .nil))) .nil))))
  (.cons (.ifs [1] (.cmp .Eq (.idx (.var 1) (.lit (.int 0))) (.lit (.str [97, 110, 100]))) (.cons (.ret [2, 4, 5, 8] (.comp (.and (.idx (.var 4) (.var 8)) (.idx (.var 5) (.var 8))) [8] (.one 8) (.rng1 (.bi .len (.cons (.var 2) .nil))) (.lit (.bl true))))
  .nil) .nil)
  (.cons (.ifs [1] (.cmp .Eq (.idx (.var 1) (.lit (.int 0))) (.lit (.str [111, 114]))) (.cons (.ret [2, 4, 5, 8] (.comp (.or (.idx (.var 4) (.var 8)) (.idx (.var 5) (.var 8))) [8] (.one 8) (.rng1 (.bi .len (.cons (.var 2) .nil))) (.lit (.bl true))))
  .nil) .nil)
  (.cons (.ret [2, 4, 5, 6, 9] (.comp (.cmp .Eq (.comp (.var 9) [9] (.one 9) (.seq (.var 6)) (.and (.idx (.var 4) (.var 9)) (.not (.idx (.var 5) (.var 9))))) (.lst .nil)) [6] (.one 6) (.seq (.var 2)) (.lit (.bl true))))
  .nil)))))))
def f41 : Fn := ⟨2, 10, b41⟩
/-- _law_is_rising -/
def N42 : List PySem.Str := ["value", "at"]
def b42 : Ss := (.cons (.ret [0, 1] (.cmp .Eq (.comp (.var 1) [1] (.one 1) (.rng2 (.lit (.int 1)) (.bi .len (.cons (.var 0) .nil))) (.cmp .GtE (.idx (.var 0) (.bin .sub (.var 1) (.lit (.int 1)))) (.idx (.var 0) (.var 1)))) (.lst .nil)))
  .nil)
def f42 : Fn := ⟨1, 2, b42⟩
/-- _law_is_name -/
def N43 : List PySem.Str := ["value", "sign"]
def b43 : Ss := (.cons (.ifs [0] (.or (.not (.isi (.var 0) [.str])) (.or (.not (.chain .LtE .LtE (.lit (.int 1)) (.bi .len (.cons (.var 0) .nil)) (.lit (.int 12)))) (.cmp .NotIn (.idx (.var 0) (.lit (.int 0))) (.lit (.str [97, 98, 99, 100, 101, 102, 103, 104, 105, 106, 107, 108, 109, 110, 111, 112, 113, 114, 115, 116, 117, 118, 119, 120, 121, 122]))))) (.cons (.ret [] (.lit (.bl false)))
  .nil) .nil)
  (.cons (.ret [0, 1] (.cmp .Eq (.comp (.var 1) [1] (.one 1) (.seq (.var 0)) (.cmp .NotIn (.var 1) (.lit (.str [97, 98, 99, 100, 101, 102, 103, 104, 105, 106, 107, 108, 109, 110, 111, 112, 113, 114, 115, 116, 117, 118, 119, 120, 121, 122, 48, 49, 50, 51, 52, 53, 54, 55, 56, 57])))) (.lst .nil)))
  .nil))
def f43 : Fn := ⟨1, 2, b43⟩
/-- _law_is_whole -/
def N44 : List PySem.Str := ["value"]
def b44 : Ss := (.cons (.ret [0] (.and (.isi (.var 0) [.int]) (.not (.isi (.var 0) [.bool]))))
  .nil)
def f44 : Fn := ⟨1, 1, b44⟩
/-- _law_is_order -/
def N45 : List PySem.Str := ["value", "many", "up", "names", "world", "ups", "letters", "one", "name", "far"]
def b45 : Ss := (.cons (.ifs [0] (.or (.not (.isi (.var 0) [.tuple])) (.or (.cmp .NotEq (.bi .len (.cons (.var 0) .nil)) (.lit (.int 2))) (.or (.not (.isi (.idx (.var 0) (.lit (.int 0))) [.list])) (.not (.isi (.idx (.var 0) (.lit (.int 1))) [.list]))))) (.cons (.ret [] (.lit (.bl false)))
  .nil) .nil)
  (.cons (.unp [5, 6] [0] (.var 0))
  (.cons (.set 1 [5] (.bi .len (.cons (.var 5) .nil)))
  (.cons (.ifs [1, 6] (.or (.not (.chain .LtE .LtE (.lit (.int 1)) (.var 1) (.lit (.int 60)))) (.cmp .NotEq (.bi .len (.cons (.var 6) .nil)) (.var 1))) (.cons (.ret [] (.lit (.bl false)))
  .nil) .nil)
  (.cons (.for_ (.one 2) [5] (.seq (.var 5)) (.cons (.ifs [1, 2, 7] (.or (.not (.isi (.var 2) [.list])) (.or (.cmp .NotEq (.comp (.var 7) [7] (.one 7) (.seq (.var 2)) (.or (.not (.call 44 (.cons (.var 7) .nil))) (.not (.chain .LtE .Lt (.lit (.int 0)) (.var 7) (.var 1))))) (.lst .nil)) (.not (.call 42 (.cons (.var 2) .nil))))) (.cons (.ret [] (.lit (.bl false)))
  .nil) .nil)
  .nil))
  (.cons (.for_ (.one 3) [6] (.seq (.var 6)) (.cons (.ifs [3, 8] (.or (.not (.isi (.var 3) [.list])) (.or (.cmp .NotEq (.comp (.var 8) [8] (.one 8) (.seq (.var 3)) (.not (.call 43 (.cons (.var 8) .nil)))) (.lst .nil)) (.not (.call 42 (.cons (.var 3) .nil))))) (.cons (.ret [] (.lit (.bl false)))
  .nil) .nil)
  .nil))
  (.cons (.ifs [1, 5] (.cmp .NotEq (.idx (.var 5) (.lit (.int 0))) (.lrng1 (.var 1))) (.cons (.ret [] (.lit (.bl false)))
  .nil) .nil)
  (.cons (.for_ (.one 4) [1] (.rng1 (.var 1)) (.cons (.ifs [4, 5] (.cmp .NotIn (.var 4) (.idx (.var 5) (.var 4))) (.cons (.ret [] (.lit (.bl false)))
  .nil) .nil)
  (.cons (.for_ (.one 7) [4, 5] (.seq (.idx (.var 5) (.var 4))) (.cons (.ifs [4, 5, 6, 7, 8, 9] (.or (.and (.cmp .NotEq (.var 7) (.var 4)) (.cmp .In (.var 4) (.idx (.var 5) (.var 7)))) (.or (.cmp .NotEq (.comp (.var 9) [9] (.one 9) (.seq (.idx (.var 5) (.var 7))) (.cmp .NotIn (.var 9) (.idx (.var 5) (.var 4)))) (.lst .nil)) (.cmp .NotEq (.comp (.var 8) [8] (.one 8) (.seq (.idx (.var 6) (.var 4))) (.cmp .NotIn (.var 8) (.idx (.var 6) (.var 7)))) (.lst .nil)))) (.cons (.ret [] (.lit (.bl false)))
  .nil) .nil)
  .nil))
  .nil)))
  (.cons (.ret [] (.lit (.bl true)))
  .nil)))))))))
def f45 : Fn := ⟨1, 10, b45⟩
/-- _law_lots -/
def N46 : List PySem.Str := ["things", "told", "thing", "lot"]
def b46 : Ss := (.cons (.set 1 [] (.lst (.cons (.lst .nil) .nil)))
  (.cons (.for_ (.one 2) [0] (.seq (.var 0)) (.cons (.set 1 [1, 2, 3] (.bin .add (.var 1) (.comp (.bin .add (.var 3) (.lst (.cons (.var 2) .nil))) [3] (.one 3) (.seq (.var 1)) (.lit (.bl true)))))
  .nil))
  (.cons (.ret [1] (.bi .sorted (.cons (.var 1) .nil)))
  .nil)))
def f46 : Fn := ⟨1, 4, b46⟩
/-- _law_all_orders -/
def N47 : List PySem.Str := ["many", "names", "rows", "world", "told", "ups", "letters", "row", "lot", "one"]
def b47 : Ss := (.cons (.set 2 [0] (.lst (.cons (.lst (.cons (.lrng1 (.var 0)) .nil)) .nil)))
  (.cons (.for_ (.one 3) [0] (.rng2 (.lit (.int 1)) (.var 0)) (.cons (.set 2 [0, 2, 3, 7, 8, 9] (.bi .sumL (.cons (.comp (.comp (.bin .add (.var 7) (.lst (.cons (.bi .sorted (.cons (.bin .add (.var 8) (.lst (.cons (.var 3) .nil))) .nil)) .nil))) [8] (.one 8) (.seq (.call 46 (.cons (.comp (.var 9) [9] (.one 9) (.rng2 (.lit (.int 1)) (.var 0)) (.cmp .NotEq (.var 9) (.var 3))) .nil))) (.lit (.bl true))) [7] (.one 7) (.seq (.var 2)) (.lit (.bl true))) (.cons (.lst .nil) .nil))))
  .nil))
  (.cons (.set 4 [] (.lst .nil))
  (.cons (.for_ (.one 5) [2] (.seq (.bi .sorted (.cons (.var 2) .nil))) (.cons (.set 6 [] (.lst (.cons (.lst .nil) .nil)))
  (.cons (.for_ (.one 3) [0] (.rng1 (.var 0)) (.cons (.set 6 [1, 6, 7, 8] (.bi .sumL (.cons (.comp (.comp (.bin .add (.var 7) (.lst (.cons (.var 8) .nil))) [8] (.one 8) (.seq (.call 46 (.cons (.var 1) .nil))) (.lit (.bl true))) [7] (.one 7) (.seq (.var 6)) (.lit (.bl true))) (.cons (.lst .nil) .nil))))
  .nil))
  (.cons (.set 4 [4, 5, 6, 7] (.bin .add (.var 4) (.comp (.tup (.cons (.var 5) (.cons (.var 7) .nil))) [7] (.one 7) (.seq (.bi .sorted (.cons (.var 6) .nil))) (.call 45 (.cons (.tup (.cons (.var 5) (.cons (.var 7) .nil))) .nil)))))
  .nil))))
  (.cons (.retV 4)
  .nil)))))
def f47 : Fn := ⟨2, 10, b47⟩
/-- _law_marks -/
def N48 : List PySem.Str := ["words", "told", "word"]
def b48 : Ss := (.cons (.set 1 [] (.lst .nil))
  (.cons (.for_ (.one 2) [0] (.seq (.var 0)) (.cons (.set 1 [1, 2] (.bin .add (.var 1) (.ite (.cmp .NotIn (.var 2) (.var 1)) (.lst (.cons (.var 2) .nil)) (.lst .nil))))
  .nil))
  (.cons (.ret [0, 1, 2] (.comp (.meth .index (.var 1) (.cons (.var 2) .nil)) [2] (.one 2) (.seq (.var 0)) (.lit (.bl true))))
  .nil)))
def f48 : Fn := ⟨1, 3, b48⟩
/-- _law_alike_marks -/
def N49 : List PySem.Str := ["order", "marks", "turn", "names", "world", "up", "one"]
def b49 : Ss := (.cons (.set 1 [0, 3] (.call 48 (.cons (.comp (.bi .repr (.cons (.var 3) .nil)) [3] (.one 3) (.seq (.idx (.var 0) (.lit (.int 1)))) (.lit (.bl true))) .nil)))
  (.cons (.for_ (.one 2) [1] (.rng1 (.bi .len (.cons (.var 1) .nil))) (.cons (.set 1 [0, 1, 4, 5, 6] (.call 48 (.cons (.comp (.bi .repr (.cons (.tup (.cons (.idx (.var 1) (.var 4)) (.cons (.bi .sortSet (.cons (.comp (.idx (.var 1) (.var 6)) [6] (.one 6) (.seq (.var 5)) (.lit (.bl true))) .nil)) .nil))) .nil)) [4, 5] (.many [4, 5]) (.enum (.idx (.var 0) (.lit (.int 0)))) (.lit (.bl true))) .nil)))
  .nil))
  (.cons (.retV 1)
  .nil)))
def f49 : Fn := ⟨1, 7, b49⟩
/-- _law_some_order -/
def N50 : List PySem.Str := ["generator"]
def b50 : Ss := (.cons (.ret [0] (.call 38 (.cons (.var 0) (.cons (.call 47 (.cons (.bin .add (.lit (.int 1)) (.call 35 (.cons (.var 0) (.cons (.lit (.int 3)) .nil)))) (.cons (.lst (.cons (.lit (.str [97])) (.cons (.lit (.str [98])) .nil))) .nil))) .nil))))
  .nil)
def f50 : Fn := ⟨1, 1, b50⟩
/-- _law_built -/
def N51 : List PySem.Str := ["generator", "order", "turn"]
def b51 : Ss := (.cons (.set 1 [0] (.call 50 (.cons (.var 0) .nil)))
  (.cons (.for_ (.one 2) [0] (.rng1 (.call 35 (.cons (.var 0) (.cons (.lit (.int 3)) .nil)))) (.cons (.set 1 [0, 1] (.call 27 (.cons (.var 1) (.cons (.call 38 (.cons (.var 0) (.cons (.lst (.cons (.var 1) (.cons (.call 50 (.cons (.var 0) .nil)) .nil))) .nil))) .nil))))
  .nil))
  (.cons (.retV 1)
  .nil)))
def f51 : Fn := ⟨1, 3, b51⟩
/-- _law_short_right -/
def N52 : List PySem.Str := ["generator", "order", "many", "parts", "short", "due", "turn", "marks", "kept", "formula", "told", "number", "part", "world", "mark", "one", "does"]
def b52 : Ss := (.cons (.unp [7, 8] [1] (.tup (.cons (.call 49 (.cons (.var 1) .nil)) (.cons (.bi .repr (.cons (.var 1) .nil)) .nil))))
  (.cons (.set 2 [7] (.bi .lenSet (.cons (.var 7) .nil)))
  (.cons (.set 3 [2, 7, 11, 13, 14] (.comp (.comp (.var 13) [13, 14] (.many [13, 14]) (.enum (.var 7)) (.cmp .Eq (.var 14) (.var 11))) [11] (.one 11) (.rng1 (.var 2)) (.lit (.bl true))))
  (.cons (.set 4 [1] (.call 32 (.cons (.var 1) .nil)))
  (.cons (.set 5 [1, 3, 7, 12, 15] (.tup (.cons (.comp (.bi .sortSet (.cons (.comp (.idx (.var 7) (.var 15)) [15] (.one 15) (.seq (.idx (.idx (.var 1) (.lit (.int 0))) (.idx (.var 12) (.lit (.int 0))))) (.lit (.bl true))) .nil)) [12] (.one 12) (.seq (.var 3)) (.lit (.bl true))) (.cons (.comp (.idx (.idx (.var 1) (.lit (.int 1))) (.idx (.var 12) (.lit (.int 0)))) [12] (.one 12) (.seq (.var 3)) (.lit (.bl true))) .nil))))
  (.cons (.ifs [1, 3, 4, 5] (.not (.call 39 (.cons (.lst (.cons (.call 31 (.cons (.var 1) .nil)) (.cons (.callK 31 [0] 0 (.cons (.var 1) .nil)) (.cons (.var 4) (.cons (.callK 32 [0] 1 (.cons (.var 1) .nil)) .nil))))) (.cons (.lst (.cons (.var 3) (.cons (.var 3) (.cons (.var 5) (.cons (.var 5) .nil))))) .nil)))) (.cons (.ret [] (.lit (.bl false)))
  .nil) .nil)
  (.cons (.ifs [1, 4] (.or (.not (.call 45 (.cons (.var 4) .nil))) (.or (.cmp .IsNot (.call 17 (.cons (.var 4) .nil)) (.lit (.bl true))) (.or (.not (.call 39 (.cons (.call 32 (.cons (.var 4) .nil)) (.cons (.var 4) .nil)))) (.cmp .IsNot (.call 33 (.cons (.var 1) (.cons (.var 4) .nil))) (.lit (.bl true)))))) (.cons (.ret [] (.lit (.bl false)))
  .nil) .nil)
  (.cons (.for_ (.one 6) [] (.rng1 (.lit (.int 8))) (.cons (.set 9 [0] (.call 40 (.cons (.var 0) (.cons (.lst (.cons (.lit (.str [97])) (.cons (.lit (.str [98])) .nil))) (.cons (.lit (.int 3)) .nil)))))
  (.cons (.set 10 [1, 9] (.call 41 (.cons (.var 1) (.cons (.var 9) .nil))))
  (.cons (.ifs [3, 4, 9, 10, 12, 13] (.or (.cmp .NotEq (.call 41 (.cons (.var 4) (.cons (.var 9) .nil))) (.comp (.idx (.var 10) (.idx (.var 12) (.lit (.int 0)))) [12] (.one 12) (.seq (.var 3)) (.lit (.bl true)))) (.cmp .NotEq (.comp (.var 12) [12] (.one 12) (.seq (.var 3)) (.cmp .Gt (.bi .lenSet (.cons (.comp (.idx (.var 10) (.var 13)) [13] (.one 13) (.seq (.var 12)) (.lit (.bl true))) .nil)) (.lit (.int 1)))) (.lst .nil))) (.cons (.ret [] (.lit (.bl false)))
  .nil) .nil)
  (.cons (.ifs [1, 4, 9, 10, 13, 16] (.not (.call 39 (.cons (.lst (.cons (.call 21 (.cons (.var 4) (.cons (.var 9) (.cons (.lit (.int 0)) .nil)))) (.cons (.call 24 (.cons (.lst .nil) (.cons (.var 9) (.cons (.var 4) .nil)))) (.cons (.call 22 (.cons (.var 1) (.cons (.var 9) .nil))) .nil)))) (.cons (.lst (.cons (.idx (.var 10) (.lit (.int 0))) (.cons (.not (.idx (.var 10) (.lit (.int 0)))) (.cons (.comp (.var 13) [13, 16] (.many [13, 16]) (.enum (.var 10)) (.var 16)) .nil)))) .nil)))) (.cons (.ret [] (.lit (.bl false)))
  .nil) .nil)
  .nil)))))
  (.cons (.appE [1] (.idx (.call 31 (.cons (.var 1) .nil)) (.lit (.int 0))) (.lit (.int 7)))
  (.cons (.appV 4 [0, 0] (.lit (.int 7)))
  (.cons (.ret [1, 3, 5, 8] (.and (.call 39 (.cons (.lst (.cons (.call 31 (.cons (.var 1) .nil)) (.cons (.call 32 (.cons (.var 1) .nil)) .nil))) (.cons (.lst (.cons (.var 3) (.cons (.var 5) .nil))) .nil))) (.cmp .Eq (.bi .repr (.cons (.var 1) .nil)) (.var 8))))
  .nil)))))))))))
def f52 : Fn := ⟨2, 17, b52⟩
/-- _law_two_right -/
def N53 : List PySem.Str := ["generator", "both", "marks", "right", "one", "other"]
def b53 : Ss := (.cons (.par [4, 5] [0] (.cons (.call 50 (.cons (.var 0) .nil)) (.cons (.call 50 (.cons (.var 0) .nil)) .nil)))
  (.cons (.set 1 [4, 5] (.call 27 (.cons (.var 4) (.cons (.var 5) .nil))))
  (.cons (.set 2 [1] (.call 49 (.cons (.var 1) .nil)))
  (.cons (.set 3 [2, 4] (.cmp .Eq (.idx (.var 2) (.lit (.int 1))) (.idx (.var 2) (.bin .add (.bi .len (.cons (.idx (.var 4) (.lit (.int 0))) .nil)) (.lit (.int 1))))))
  (.cons (.ifs [3, 4, 5] (.not (.call 39 (.cons (.lst (.cons (.call 33 (.cons (.var 4) (.cons (.var 5) .nil))) (.cons (.callK 33 [1, 0] 2 (.cons (.var 4) (.cons (.var 5) .nil))) .nil))) (.cons (.lst (.cons (.var 3) (.cons (.var 3) .nil))) .nil)))) (.cons (.ret [] (.lit (.bl false)))
  .nil) .nil)
  (.cons (.ifs [3, 4, 5] (.and (.cmp .NotEq (.var 3) (.cmp .Eq (.bi .repr (.cons (.call 32 (.cons (.var 4) .nil)) .nil)) (.bi .repr (.cons (.call 32 (.cons (.var 5) .nil)) .nil)))) (.var 3)) (.cons (.ret [4, 5] (.cmp .Eq (.bi .len (.cons (.idx (.call 32 (.cons (.var 4) .nil)) (.lit (.int 0))) .nil)) (.bi .len (.cons (.idx (.call 32 (.cons (.var 5) .nil)) (.lit (.int 0))) .nil))))
  .nil) .nil)
  (.cons (.ret [] (.lit (.bl true)))
  .nil)))))))
def f53 : Fn := ⟨1, 6, b53⟩
/-- law -/
def N54 : List PySem.Str := ["script", "index", "told", "generator", "two", "one"]
def b54 : Ss := (.cons (.for_ (.one 1) [] (.rng1 (.lit (.int 3))) (.cons (.cel 3 [0, 1] (.call 37 (.cons (.var 0) (.cons (.var 1) .nil))))
  (.cons (.ifs [3] (.or (.not (.call 52 (.cons (.var 3) (.cons (.call 51 (.cons (.var 3) .nil)) .nil)))) (.not (.call 53 (.cons (.var 3) .nil)))) (.cons (.ret [] (.lit (.bl false)))
  .nil) .nil)
  .nil)))
  (.cons (.par [4, 5] [] (.cons (.tup (.cons (.lst (.cons (.lst (.cons (.lit (.int 0)) (.cons (.lit (.int 1)) .nil))) (.cons (.lst (.cons (.lit (.int 1)) .nil)) .nil))) (.cons (.lst (.cons (.lst .nil) (.cons (.lst (.cons (.lit (.str [97])) .nil)) .nil))) .nil))) (.cons (.tup (.cons (.lst (.cons (.lst (.cons (.lit (.int 0)) .nil)) .nil)) (.cons (.lst (.cons (.lst (.cons (.lit (.str [97])) .nil)) .nil)) .nil))) .nil)))
  (.cons (.set 2 [4, 5] (.lst (.cons (.call 31 (.cons (.call 27 (.cons (.var 5) (.cons (.var 5) .nil))) .nil)) (.cons (.call 32 (.cons (.call 27 (.cons (.var 5) (.cons (.var 5) .nil))) .nil)) (.cons (.call 33 (.cons (.var 4) (.cons (.call 27 (.cons (.var 5) (.cons (.var 5) .nil))) .nil))) (.cons (.call 33 (.cons (.var 5) (.cons (.var 4) .nil))) .nil))))))
  (.cons (.ret [2, 4] (.call 39 (.cons (.var 2) (.cons (.lst (.cons (.lst (.cons (.lst (.cons (.lit (.int 0)) .nil)) (.cons (.lst (.cons (.lit (.int 1)) (.cons (.lit (.int 2)) .nil))) .nil))) (.cons (.var 4) (.cons (.lit (.bl true)) (.cons (.lit (.bl false)) .nil))))) .nil))))
  .nil))))
def f54 : Fn := ⟨1, 6, b54⟩
def P : List Fn := [f0, f1, f2, f3, f4, f5, f6, f7, f8, f9, f10, f11, f12, f13, f14, f15, f16, f17, f18, f19, f20, f21, f22, f23, f24, f25, f26, f27, f28, f29, f30, f31, f32, f33, f34, f35, f36, f37, f38, f39, f40, f41, f42, f43, f44, f45, f46, f47, f48, f49, f50, f51, f52, f53, f54]
def D : Dec := ⟨[("is_whole" : PySem.Str), ("is_count" : PySem.Str), ("is_below" : PySem.Str), ("is_name_in" : PySem.Str), ("is_shaped" : PySem.Str), ("inner_of" : PySem.Str), ("levels_of" : PySem.Str), ("is_formula_in" : PySem.Str), ("check_formula" : PySem.Str), ("are_assumptions_in" : PySem.Str), ("check_assumptions" : PySem.Str), ("parts_in" : PySem.Str), ("is_rising" : PySem.Str), ("is_list_of_worlds" : PySem.Str), ("is_list_of_names" : PySem.Str), ("are_ups" : PySem.Str), ("is_order_in" : PySem.Str), ("is_order" : PySem.Str), ("check_order" : PySem.Str), ("worlds_by" : PySem.Str), ("standing_in" : PySem.Str), ("stands" : PySem.Str), ("worlds_of" : PySem.Str), ("is_against_in" : PySem.Str), ("is_against" : PySem.Str), ("raised_worlds" : PySem.Str), ("beside" : PySem.Str), ("joined" : PySem.Str), ("parts_by" : PySem.Str), ("numbered_marks" : PySem.Str), ("alike_in" : PySem.Str), ("alike_parts" : PySem.Str), ("made_short" : PySem.Str), ("are_alike_orders" : PySem.Str), ("_law_hash" : PySem.Str), ("_law_random" : PySem.Str), ("_law_cell" : PySem.Str), ("_law_generator" : PySem.Str), ("_law_pick" : PySem.Str), ("_law_same" : PySem.Str), ("_law_some_formula" : PySem.Str), ("_law_worlds_by" : PySem.Str), ("_law_is_rising" : PySem.Str), ("_law_is_name" : PySem.Str), ("_law_is_whole" : PySem.Str), ("_law_is_order" : PySem.Str), ("_law_lots" : PySem.Str), ("_law_all_orders" : PySem.Str), ("_law_marks" : PySem.Str), ("_law_alike_marks" : PySem.Str), ("_law_some_order" : PySem.Str), ("_law_built" : PySem.Str), ("_law_short_right" : PySem.Str), ("_law_two_right" : PySem.Str), ("law" : PySem.Str)],
  [(("SMALL" : PySem.Str), .str [97, 98, 99, 100, 101, 102, 103, 104, 105, 106, 107, 108, 109, 110, 111, 112, 113, 114, 115, 116, 117, 118, 119, 120, 121, 122]), (("MOST_LETTERS" : PySem.Str), .int 12), (("FIGURES" : PySem.Str), .str [48, 49, 50, 51, 52, 53, 54, 55, 56, 57]), (("JOINERS" : PySem.Str), .tup [(.str [97, 110, 100]), (.str [111, 114]), (.str [116, 104, 101, 110])]), (("NO" : PySem.Str), .tup [(.str [110, 111])]), (("MOST_SIGNS" : PySem.Str), .int 200), (("MOST_DEEP" : PySem.Str), .int 60), (("MOST_ASSUMED" : PySem.Str), .int 20), (("MOST_WORLDS" : PySem.Str), .int 60)],
  [(31, ["order"], [0]), (32, ["order"], [0]), (33, ["other_order", "order"], [1, 0])]⟩
end Fx.K53
end

section
set_option Elab.async false
set_option linter.all false
set_option maxRecDepth 1000000
set_option maxHeartbeats 0
/-! Hd53: the head of k53: facts by names, the run. -/
namespace Fx.K53
open PySem PySem.Spec PyProof.Rows L2
def pw : Program := PySem.Challenge.pw_proofsrun_k53_whole_alike_worlds_made_on
def top (i : Nat) : Stmt := PySem.Challenge.pw_proofsrun_k53_whole_alike_worlds_made_on.main.body.getD i (.Pass ⟨0, 0, 0, 0⟩)
def d0 : He.DefD := ⟨("is_whole", none), "is_whole", "is_whole", defArgs (top 16), defBody (top 16), defScope (top 16), [], []⟩
def d1 : He.DefD := ⟨("is_count", none), "is_count", "is_count", defArgs (top 17), defBody (top 17), defScope (top 17), [], []⟩
def d2 : He.DefD := ⟨("is_below", none), "is_below", "is_below", defArgs (top 18), defBody (top 18), defScope (top 18), [], []⟩
def d3 : He.DefD := ⟨("is_name_in", none), "is_name_in", "is_name_in", defArgs (top 19), defBody (top 19), defScope (top 19), [], []⟩
def d4 : He.DefD := ⟨("is_shaped", none), "is_shaped", "is_shaped", defArgs (top 20), defBody (top 20), defScope (top 20), [], []⟩
def d5 : He.DefD := ⟨("inner_of", none), "inner_of", "inner_of", defArgs (top 21), defBody (top 21), defScope (top 21), [], []⟩
def d6 : He.DefD := ⟨("levels_of", none), "levels_of", "levels_of", defArgs (top 22), defBody (top 22), defScope (top 22), [], []⟩
def d7 : He.DefD := ⟨("is_formula_in", none), "is_formula_in", "is_formula_in", defArgs (top 23), defBody (top 23), defScope (top 23), [], []⟩
def d8 : He.DefD := ⟨("check_formula", none), "check_formula", "check_formula", defArgs (top 24), defBody (top 24), defScope (top 24), [], []⟩
def d9 : He.DefD := ⟨("are_assumptions_in", none), "are_assumptions_in", "are_assumptions_in", defArgs (top 25), defBody (top 25), defScope (top 25), [], []⟩
def d10 : He.DefD := ⟨("check_assumptions", none), "check_assumptions", "check_assumptions", defArgs (top 26), defBody (top 26), defScope (top 26), [], []⟩
def d11 : He.DefD := ⟨("parts_in", none), "parts_in", "parts_in", defArgs (top 27), defBody (top 27), defScope (top 27), [], []⟩
def d12 : He.DefD := ⟨("is_rising", none), "is_rising", "is_rising", defArgs (top 30), defBody (top 30), defScope (top 30), [], []⟩
def d13 : He.DefD := ⟨("is_list_of_worlds", none), "is_list_of_worlds", "is_list_of_worlds", defArgs (top 31), defBody (top 31), defScope (top 31), [], []⟩
def d14 : He.DefD := ⟨("is_list_of_names", none), "is_list_of_names", "is_list_of_names", defArgs (top 32), defBody (top 32), defScope (top 32), [], []⟩
def d15 : He.DefD := ⟨("are_ups", none), "are_ups", "are_ups", defArgs (top 33), defBody (top 33), defScope (top 33), [], []⟩
def d16 : He.DefD := ⟨("is_order_in", none), "is_order_in", "is_order_in", defArgs (top 34), defBody (top 34), defScope (top 34), [], []⟩
def d17 : He.DefD := ⟨("is_order", none), "is_order", "is_order", defArgs (top 35), defBody (top 35), defScope (top 35), [], []⟩
def d18 : He.DefD := ⟨("check_order", none), "check_order", "check_order", defArgs (top 36), defBody (top 36), defScope (top 36), [], []⟩
def d19 : He.DefD := ⟨("worlds_by", none), "worlds_by", "worlds_by", defArgs (top 37), defBody (top 37), defScope (top 37), [], []⟩
def d20 : He.DefD := ⟨("standing_in", none), "standing_in", "standing_in", defArgs (top 38), defBody (top 38), defScope (top 38), [], []⟩
def d21 : He.DefD := ⟨("stands", none), "stands", "stands", defArgs (top 39), defBody (top 39), defScope (top 39), [], []⟩
def d22 : He.DefD := ⟨("worlds_of", none), "worlds_of", "worlds_of", defArgs (top 40), defBody (top 40), defScope (top 40), [], []⟩
def d23 : He.DefD := ⟨("is_against_in", none), "is_against_in", "is_against_in", defArgs (top 41), defBody (top 41), defScope (top 41), [], []⟩
def d24 : He.DefD := ⟨("is_against", none), "is_against", "is_against", defArgs (top 42), defBody (top 42), defScope (top 42), [], []⟩
def d25 : He.DefD := ⟨("raised_worlds", none), "raised_worlds", "raised_worlds", defArgs (top 43), defBody (top 43), defScope (top 43), [], []⟩
def d26 : He.DefD := ⟨("beside", none), "beside", "beside", defArgs (top 44), defBody (top 44), defScope (top 44), [], []⟩
def d27 : He.DefD := ⟨("joined", none), "joined", "joined", defArgs (top 45), defBody (top 45), defScope (top 45), [], []⟩
def d28 : He.DefD := ⟨("parts_by", none), "parts_by", "parts_by", defArgs (top 46), defBody (top 46), defScope (top 46), [], []⟩
def d29 : He.DefD := ⟨("numbered_marks", none), "numbered_marks", "numbered_marks", defArgs (top 47), defBody (top 47), defScope (top 47), [], []⟩
def d30 : He.DefD := ⟨("alike_in", none), "alike_in", "alike_in", defArgs (top 48), defBody (top 48), defScope (top 48), [], []⟩
def d31 : He.DefD := ⟨("alike_parts", none), "alike_parts", "alike_parts", defArgs (top 49), defBody (top 49), defScope (top 49), [], []⟩
def d32 : He.DefD := ⟨("made_short", none), "made_short", "made_short", defArgs (top 50), defBody (top 50), defScope (top 50), [], []⟩
def d33 : He.DefD := ⟨("are_alike_orders", none), "are_alike_orders", "are_alike_orders", defArgs (top 51), defBody (top 51), defScope (top 51), [], []⟩
def d34 : He.DefD := ⟨("_law_hash", none), "_law_hash", "_law_hash", defArgs (top 53), defBody (top 53), defScope (top 53), [], []⟩
def d35 : He.DefD := ⟨("_law_random", none), "_law_random", "_law_random", defArgs (top 54), defBody (top 54), defScope (top 54), [], []⟩
def d36 : He.DefD := ⟨("_law_cell", none), "_law_cell", "_law_cell", defArgs (top 55), defBody (top 55), defScope (top 55), [], []⟩
def d37 : He.DefD := ⟨("_law_generator", none), "_law_generator", "_law_generator", defArgs (top 56), defBody (top 56), defScope (top 56), [], []⟩
def d38 : He.DefD := ⟨("_law_pick", none), "_law_pick", "_law_pick", defArgs (top 57), defBody (top 57), defScope (top 57), [], []⟩
def d39 : He.DefD := ⟨("_law_same", none), "_law_same", "_law_same", defArgs (top 58), defBody (top 58), defScope (top 58), [], []⟩
def d40 : He.DefD := ⟨("_law_some_formula", none), "_law_some_formula", "_law_some_formula", defArgs (top 59), defBody (top 59), defScope (top 59), [], []⟩
def d41 : He.DefD := ⟨("_law_worlds_by", none), "_law_worlds_by", "_law_worlds_by", defArgs (top 60), defBody (top 60), defScope (top 60), [], []⟩
def d42 : He.DefD := ⟨("_law_is_rising", none), "_law_is_rising", "_law_is_rising", defArgs (top 61), defBody (top 61), defScope (top 61), [], []⟩
def d43 : He.DefD := ⟨("_law_is_name", none), "_law_is_name", "_law_is_name", defArgs (top 62), defBody (top 62), defScope (top 62), [], []⟩
def d44 : He.DefD := ⟨("_law_is_whole", none), "_law_is_whole", "_law_is_whole", defArgs (top 63), defBody (top 63), defScope (top 63), [], []⟩
def d45 : He.DefD := ⟨("_law_is_order", none), "_law_is_order", "_law_is_order", defArgs (top 64), defBody (top 64), defScope (top 64), [], []⟩
def d46 : He.DefD := ⟨("_law_lots", none), "_law_lots", "_law_lots", defArgs (top 65), defBody (top 65), defScope (top 65), [], []⟩
def d47 : He.DefD := ⟨("_law_all_orders", none), "_law_all_orders", "_law_all_orders", defArgs (top 66), defBody (top 66), defScope (top 66), [], []⟩
def d48 : He.DefD := ⟨("_law_marks", none), "_law_marks", "_law_marks", defArgs (top 67), defBody (top 67), defScope (top 67), [], []⟩
def d49 : He.DefD := ⟨("_law_alike_marks", none), "_law_alike_marks", "_law_alike_marks", defArgs (top 68), defBody (top 68), defScope (top 68), [], []⟩
def d50 : He.DefD := ⟨("_law_some_order", none), "_law_some_order", "_law_some_order", defArgs (top 69), defBody (top 69), defScope (top 69), [], []⟩
def d51 : He.DefD := ⟨("_law_built", none), "_law_built", "_law_built", defArgs (top 70), defBody (top 70), defScope (top 70), [], []⟩
def d52 : He.DefD := ⟨("_law_short_right", none), "_law_short_right", "_law_short_right", defArgs (top 71), defBody (top 71), defScope (top 71), [], []⟩
def d53 : He.DefD := ⟨("_law_two_right", none), "_law_two_right", "_law_two_right", defArgs (top 72), defBody (top 72), defScope (top 72), [], []⟩
def d54 : He.DefD := ⟨("law", none), "law", "law", defArgs (top 73), defBody (top 73), defScope (top 73), [], []⟩
def fnD : List He.DefD := [d0, d1, d2, d3, d4, d5, d6, d7, d8, d9, d10, d11, d12, d13, d14, d15, d16, d17, d18, d19, d20, d21, d22, d23, d24, d25, d26, d27, d28, d29, d30, d31, d32, d33, d34, d35, d36, d37, d38, d39, d40, d41, d42, d43, d44, d45, d46, d47, d48, d49, d50, d51, d52, d53, d54]
def faD : List He.Fa := [(.glo "is_whole" : He.Fa), (.glo "is_count" : He.Fa), (.glo "is_below" : He.Fa), (.glo "is_name_in" : He.Fa), (.glo "is_shaped" : He.Fa), (.glo "inner_of" : He.Fa), (.glo "levels_of" : He.Fa), (.glo "is_formula_in" : He.Fa), (.glo "check_formula" : He.Fa), (.glo "are_assumptions_in" : He.Fa), (.glo "check_assumptions" : He.Fa), (.glo "parts_in" : He.Fa), (.glo "is_rising" : He.Fa), (.glo "is_list_of_worlds" : He.Fa), (.glo "is_list_of_names" : He.Fa), (.glo "are_ups" : He.Fa), (.glo "is_order_in" : He.Fa), (.glo "is_order" : He.Fa), (.glo "check_order" : He.Fa), (.glo "worlds_by" : He.Fa), (.glo "standing_in" : He.Fa), (.glo "stands" : He.Fa), (.glo "worlds_of" : He.Fa), (.glo "is_against_in" : He.Fa), (.glo "is_against" : He.Fa), (.glo "raised_worlds" : He.Fa), (.glo "beside" : He.Fa), (.glo "joined" : He.Fa), (.glo "parts_by" : He.Fa), (.glo "numbered_marks" : He.Fa), (.glo "alike_in" : He.Fa), (.glo "alike_parts" : He.Fa), (.glo "made_short" : He.Fa), (.glo "are_alike_orders" : He.Fa), (.glo "_law_hash" : He.Fa), (.glo "_law_random" : He.Fa), (.glo "_law_cell" : He.Fa), (.glo "_law_generator" : He.Fa), (.glo "_law_pick" : He.Fa), (.glo "_law_same" : He.Fa), (.glo "_law_some_formula" : He.Fa), (.glo "_law_worlds_by" : He.Fa), (.glo "_law_is_rising" : He.Fa), (.glo "_law_is_name" : He.Fa), (.glo "_law_is_whole" : He.Fa), (.glo "_law_is_order" : He.Fa), (.glo "_law_lots" : He.Fa), (.glo "_law_all_orders" : He.Fa), (.glo "_law_marks" : He.Fa), (.glo "_law_alike_marks" : He.Fa), (.glo "_law_some_order" : He.Fa), (.glo "_law_built" : He.Fa), (.glo "_law_short_right" : He.Fa), (.glo "_law_two_right" : He.Fa), (.glo "law" : He.Fa), (.free "len" : He.Fa), (.free "list" : He.Fa), (.free "sum" : He.Fa), (.free "int" : He.Fa), (.free "max" : He.Fa), (.free "repr" : He.Fa), (.free "sorted" : He.Fa), (.free "set" : He.Fa), (.free "range" : He.Fa), (.free "enumerate" : He.Fa), (.free "zip" : He.Fa), (.free "isinstance" : He.Fa), (.free "str" : He.Fa), (.free "bool" : He.Fa), (.free "tuple" : He.Fa), (.str "SMALL" "abcdefghijklmnopqrstuvwxyz" : He.Fa), (.int "MOST_LETTERS" 12 : He.Fa), (.str "FIGURES" "0123456789" : He.Fa), (.glo "JOINERS" : He.Fa), (.glo "NO" : He.Fa), (.int "MOST_SIGNS" 200 : He.Fa), (.int "MOST_DEEP" 60 : He.Fa), (.int "MOST_ASSUMED" 20 : He.Fa), (.int "MOST_WORLDS" 60 : He.Fa)]
def loose0 : List PySem.Str := ["ProofError", "InvalidFormula", "InvalidAssumptions", "InvalidOrder", "InvalidWorld", "TooMany", "MOST_LETTERS", "MOST_SIGNS", "MOST_DEEP", "MOST_ASSUMED", "JOINERS", "NO", "SMALL", "FIGURES", "is_whole", "is_count", "is_below", "is_name_in", "is_shaped", "inner_of", "levels_of", "is_formula_in", "check_formula", "are_assumptions_in", "check_assumptions", "parts_in", "MOST_WORLDS", "is_rising", "is_list_of_worlds", "is_list_of_names"]
def loose1 : List PySem.Str := ["are_ups", "is_order_in", "is_order", "check_order", "worlds_by", "standing_in", "stands", "worlds_of", "is_against_in", "is_against", "raised_worlds", "beside", "joined", "parts_by", "numbered_marks", "alike_in", "alike_parts", "made_short", "are_alike_orders", "_law_hash", "_law_random", "_law_cell", "_law_generator", "_law_pick", "_law_same", "_law_some_formula", "_law_worlds_by", "_law_is_rising", "_law_is_name", "_law_is_whole"]
def loose2 : List PySem.Str := ["_law_is_order", "_law_lots", "_law_all_orders", "_law_marks", "_law_alike_marks", "_law_some_order", "_law_built", "_law_short_right", "_law_two_right"]
def looseN : List PySem.Str := loose0 ++ loose1 ++ loose2
def exD (K : PySem.W.Frag) : Bool := He.tupB K "JOINERS" [.str "and", .str "or", .str "then"] && He.tupB K "NO" [.str "no"]
abbrev RR : PySem.W.OpenRow := PySem.W.OpenLaw.row PySem.Challenge.rw_proofsrun_k53_whole_alike_worlds_made_on
abbrev hk : PySem.W.Hook := He.hookX 4 faD fnD [] [] exD
def ob (s : PySem.W.SharedT) : He.AlX := He.obsX 4 faD fnD [] [] exD (HandSHeadRun.getT s)
theorem ob_eq (s : PySem.W.SharedT) : ob s = hk.obs s.abs := He.obsX_eq (HandSHeadRun.getT_eq s)
theorem run (w : World) : HandSHeadRun.RunEq RR (PySem.W.view RR.prog [73]) hk ob 4000 looseN w := by
  intro os
  kernel_rfl
end Fx.K53
end

section
set_option Elab.async false
set_option linter.all false
set_option maxRecDepth 1000000
set_option maxHeartbeats 0
/-! Tb53: each def of k53. -/
namespace Fx.K53
open PySem PySem.Spec PyProof.Rows L2 Fx
variable {K : PySem.W.Frag} {mg : Str → Option Value} {h : Heap}
theorem bp0 : BindP "is_whole" (defArgs (top 16)) (defBody (top 16)) (defScope (top 16)) ["value"] := fun kV doc pm an cdv ct us hl => match us, hl with | [_], _ => by kernel_rfl
theorem bk0 : BindK "is_whole" (defArgs (top 16)) (defBody (top 16)) (defScope (top 16)) ["value"] (D.kwOf 0) := by
  intro p hp
  have e : D.kwOf 0 = [] := by decide +kernel
  rw [e] at hp
  cases hp
theorem sc0 : scB N0 ["value"] (defScope (top 16)) = true := by decide +kernel
theorem ck0 : chkSs D N0 (defScope (top 16)) f0.body (defBody (top 16)) = true := by decide +kernel
theorem df0 (c : He.SaysD faD fnD K) (X : K.In h) (G : h.Ns mainGlobals mg) : DefOf K mg D "is_whole" (D.kwOf 0) f0 := by
  obtain ⟨fd, F⟩ := c.def_ 0 (d := d0) rfl
  exact defOf_of F (He.glo_ok X G (c.fact 0 (f := .glo "is_whole") rfl)) sc0 ck0 rfl rfl bp0 bk0
theorem bp1 : BindP "is_count" (defArgs (top 17)) (defBody (top 17)) (defScope (top 17)) ["value"] := fun kV doc pm an cdv ct us hl => match us, hl with | [_], _ => by kernel_rfl
theorem bk1 : BindK "is_count" (defArgs (top 17)) (defBody (top 17)) (defScope (top 17)) ["value"] (D.kwOf 1) := by
  intro p hp
  have e : D.kwOf 1 = [] := by decide +kernel
  rw [e] at hp
  cases hp
theorem sc1 : scB N1 ["value"] (defScope (top 17)) = true := by decide +kernel
theorem ck1 : chkSs D N1 (defScope (top 17)) f1.body (defBody (top 17)) = true := by decide +kernel
theorem df1 (c : He.SaysD faD fnD K) (X : K.In h) (G : h.Ns mainGlobals mg) : DefOf K mg D "is_count" (D.kwOf 1) f1 := by
  obtain ⟨fd, F⟩ := c.def_ 1 (d := d1) rfl
  exact defOf_of F (He.glo_ok X G (c.fact 1 (f := .glo "is_count") rfl)) sc1 ck1 rfl rfl bp1 bk1
theorem bp2 : BindP "is_below" (defArgs (top 18)) (defBody (top 18)) (defScope (top 18)) ["value", "bound"] := fun kV doc pm an cdv ct us hl => match us, hl with | [_, _], _ => by kernel_rfl
theorem bk2 : BindK "is_below" (defArgs (top 18)) (defBody (top 18)) (defScope (top 18)) ["value", "bound"] (D.kwOf 2) := by
  intro p hp
  have e : D.kwOf 2 = [] := by decide +kernel
  rw [e] at hp
  cases hp
theorem sc2 : scB N2 ["value", "bound"] (defScope (top 18)) = true := by decide +kernel
theorem ck2 : chkSs D N2 (defScope (top 18)) f2.body (defBody (top 18)) = true := by decide +kernel
theorem df2 (c : He.SaysD faD fnD K) (X : K.In h) (G : h.Ns mainGlobals mg) : DefOf K mg D "is_below" (D.kwOf 2) f2 := by
  obtain ⟨fd, F⟩ := c.def_ 2 (d := d2) rfl
  exact defOf_of F (He.glo_ok X G (c.fact 2 (f := .glo "is_below") rfl)) sc2 ck2 rfl rfl bp2 bk2
theorem bp3 : BindP "is_name_in" (defArgs (top 19)) (defBody (top 19)) (defScope (top 19)) ["value"] := fun kV doc pm an cdv ct us hl => match us, hl with | [_], _ => by kernel_rfl
theorem bk3 : BindK "is_name_in" (defArgs (top 19)) (defBody (top 19)) (defScope (top 19)) ["value"] (D.kwOf 3) := by
  intro p hp
  have e : D.kwOf 3 = [] := by decide +kernel
  rw [e] at hp
  cases hp
theorem sc3 : scB N3 ["value"] (defScope (top 19)) = true := by decide +kernel
theorem ck3 : chkSs D N3 (defScope (top 19)) f3.body (defBody (top 19)) = true := by decide +kernel
theorem df3 (c : He.SaysD faD fnD K) (X : K.In h) (G : h.Ns mainGlobals mg) : DefOf K mg D "is_name_in" (D.kwOf 3) f3 := by
  obtain ⟨fd, F⟩ := c.def_ 3 (d := d3) rfl
  exact defOf_of F (He.glo_ok X G (c.fact 3 (f := .glo "is_name_in") rfl)) sc3 ck3 rfl rfl bp3 bk3
theorem bp4 : BindP "is_shaped" (defArgs (top 20)) (defBody (top 20)) (defScope (top 20)) ["value"] := fun kV doc pm an cdv ct us hl => match us, hl with | [_], _ => by kernel_rfl
theorem bk4 : BindK "is_shaped" (defArgs (top 20)) (defBody (top 20)) (defScope (top 20)) ["value"] (D.kwOf 4) := by
  intro p hp
  have e : D.kwOf 4 = [] := by decide +kernel
  rw [e] at hp
  cases hp
theorem sc4 : scB N4 ["value"] (defScope (top 20)) = true := by decide +kernel
theorem ck4 : chkSs D N4 (defScope (top 20)) f4.body (defBody (top 20)) = true := by decide +kernel
theorem df4 (c : He.SaysD faD fnD K) (X : K.In h) (G : h.Ns mainGlobals mg) : DefOf K mg D "is_shaped" (D.kwOf 4) f4 := by
  obtain ⟨fd, F⟩ := c.def_ 4 (d := d4) rfl
  exact defOf_of F (He.glo_ok X G (c.fact 4 (f := .glo "is_shaped") rfl)) sc4 ck4 rfl rfl bp4 bk4
theorem bp5 : BindP "inner_of" (defArgs (top 21)) (defBody (top 21)) (defScope (top 21)) ["formula"] := fun kV doc pm an cdv ct us hl => match us, hl with | [_], _ => by kernel_rfl
theorem bk5 : BindK "inner_of" (defArgs (top 21)) (defBody (top 21)) (defScope (top 21)) ["formula"] (D.kwOf 5) := by
  intro p hp
  have e : D.kwOf 5 = [] := by decide +kernel
  rw [e] at hp
  cases hp
theorem sc5 : scB N5 ["formula"] (defScope (top 21)) = true := by decide +kernel
theorem ck5 : chkSs D N5 (defScope (top 21)) f5.body (defBody (top 21)) = true := by decide +kernel
theorem df5 (c : He.SaysD faD fnD K) (X : K.In h) (G : h.Ns mainGlobals mg) : DefOf K mg D "inner_of" (D.kwOf 5) f5 := by
  obtain ⟨fd, F⟩ := c.def_ 5 (d := d5) rfl
  exact defOf_of F (He.glo_ok X G (c.fact 5 (f := .glo "inner_of") rfl)) sc5 ck5 rfl rfl bp5 bk5
theorem bp6 : BindP "levels_of" (defArgs (top 22)) (defBody (top 22)) (defScope (top 22)) ["value"] := fun kV doc pm an cdv ct us hl => match us, hl with | [_], _ => by kernel_rfl
theorem bk6 : BindK "levels_of" (defArgs (top 22)) (defBody (top 22)) (defScope (top 22)) ["value"] (D.kwOf 6) := by
  intro p hp
  have e : D.kwOf 6 = [] := by decide +kernel
  rw [e] at hp
  cases hp
theorem sc6 : scB N6 ["value"] (defScope (top 22)) = true := by decide +kernel
theorem ck6 : chkSs D N6 (defScope (top 22)) f6.body (defBody (top 22)) = true := by decide +kernel
theorem df6 (c : He.SaysD faD fnD K) (X : K.In h) (G : h.Ns mainGlobals mg) : DefOf K mg D "levels_of" (D.kwOf 6) f6 := by
  obtain ⟨fd, F⟩ := c.def_ 6 (d := d6) rfl
  exact defOf_of F (He.glo_ok X G (c.fact 6 (f := .glo "levels_of") rfl)) sc6 ck6 rfl rfl bp6 bk6
theorem bp7 : BindP "is_formula_in" (defArgs (top 23)) (defBody (top 23)) (defScope (top 23)) ["value"] := fun kV doc pm an cdv ct us hl => match us, hl with | [_], _ => by kernel_rfl
theorem bk7 : BindK "is_formula_in" (defArgs (top 23)) (defBody (top 23)) (defScope (top 23)) ["value"] (D.kwOf 7) := by
  intro p hp
  have e : D.kwOf 7 = [] := by decide +kernel
  rw [e] at hp
  cases hp
theorem sc7 : scB N7 ["value"] (defScope (top 23)) = true := by decide +kernel
theorem ck7 : chkSs D N7 (defScope (top 23)) f7.body (defBody (top 23)) = true := by decide +kernel
theorem df7 (c : He.SaysD faD fnD K) (X : K.In h) (G : h.Ns mainGlobals mg) : DefOf K mg D "is_formula_in" (D.kwOf 7) f7 := by
  obtain ⟨fd, F⟩ := c.def_ 7 (d := d7) rfl
  exact defOf_of F (He.glo_ok X G (c.fact 7 (f := .glo "is_formula_in") rfl)) sc7 ck7 rfl rfl bp7 bk7
theorem bp8 : BindP "check_formula" (defArgs (top 24)) (defBody (top 24)) (defScope (top 24)) ["formula"] := fun kV doc pm an cdv ct us hl => match us, hl with | [_], _ => by kernel_rfl
theorem bk8 : BindK "check_formula" (defArgs (top 24)) (defBody (top 24)) (defScope (top 24)) ["formula"] (D.kwOf 8) := by
  intro p hp
  have e : D.kwOf 8 = [] := by decide +kernel
  rw [e] at hp
  cases hp
theorem sc8 : scB N8 ["formula"] (defScope (top 24)) = true := by decide +kernel
theorem ck8 : chkSs D N8 (defScope (top 24)) f8.body (defBody (top 24)) = true := by decide +kernel
theorem df8 (c : He.SaysD faD fnD K) (X : K.In h) (G : h.Ns mainGlobals mg) : DefOf K mg D "check_formula" (D.kwOf 8) f8 := by
  obtain ⟨fd, F⟩ := c.def_ 8 (d := d8) rfl
  exact defOf_of F (He.glo_ok X G (c.fact 8 (f := .glo "check_formula") rfl)) sc8 ck8 rfl rfl bp8 bk8
theorem bp9 : BindP "are_assumptions_in" (defArgs (top 25)) (defBody (top 25)) (defScope (top 25)) ["value"] := fun kV doc pm an cdv ct us hl => match us, hl with | [_], _ => by kernel_rfl
theorem bk9 : BindK "are_assumptions_in" (defArgs (top 25)) (defBody (top 25)) (defScope (top 25)) ["value"] (D.kwOf 9) := by
  intro p hp
  have e : D.kwOf 9 = [] := by decide +kernel
  rw [e] at hp
  cases hp
theorem sc9 : scB N9 ["value"] (defScope (top 25)) = true := by decide +kernel
theorem ck9 : chkSs D N9 (defScope (top 25)) f9.body (defBody (top 25)) = true := by decide +kernel
theorem df9 (c : He.SaysD faD fnD K) (X : K.In h) (G : h.Ns mainGlobals mg) : DefOf K mg D "are_assumptions_in" (D.kwOf 9) f9 := by
  obtain ⟨fd, F⟩ := c.def_ 9 (d := d9) rfl
  exact defOf_of F (He.glo_ok X G (c.fact 9 (f := .glo "are_assumptions_in") rfl)) sc9 ck9 rfl rfl bp9 bk9
theorem bp10 : BindP "check_assumptions" (defArgs (top 26)) (defBody (top 26)) (defScope (top 26)) ["assumptions"] := fun kV doc pm an cdv ct us hl => match us, hl with | [_], _ => by kernel_rfl
theorem bk10 : BindK "check_assumptions" (defArgs (top 26)) (defBody (top 26)) (defScope (top 26)) ["assumptions"] (D.kwOf 10) := by
  intro p hp
  have e : D.kwOf 10 = [] := by decide +kernel
  rw [e] at hp
  cases hp
theorem sc10 : scB N10 ["assumptions"] (defScope (top 26)) = true := by decide +kernel
theorem ck10 : chkSs D N10 (defScope (top 26)) f10.body (defBody (top 26)) = true := by decide +kernel
theorem df10 (c : He.SaysD faD fnD K) (X : K.In h) (G : h.Ns mainGlobals mg) : DefOf K mg D "check_assumptions" (D.kwOf 10) f10 := by
  obtain ⟨fd, F⟩ := c.def_ 10 (d := d10) rfl
  exact defOf_of F (He.glo_ok X G (c.fact 10 (f := .glo "check_assumptions") rfl)) sc10 ck10 rfl rfl bp10 bk10
theorem bp11 : BindP "parts_in" (defArgs (top 27)) (defBody (top 27)) (defScope (top 27)) ["formula"] := fun kV doc pm an cdv ct us hl => match us, hl with | [_], _ => by kernel_rfl
theorem bk11 : BindK "parts_in" (defArgs (top 27)) (defBody (top 27)) (defScope (top 27)) ["formula"] (D.kwOf 11) := by
  intro p hp
  have e : D.kwOf 11 = [] := by decide +kernel
  rw [e] at hp
  cases hp
theorem sc11 : scB N11 ["formula"] (defScope (top 27)) = true := by decide +kernel
theorem ck11 : chkSs D N11 (defScope (top 27)) f11.body (defBody (top 27)) = true := by decide +kernel
theorem df11 (c : He.SaysD faD fnD K) (X : K.In h) (G : h.Ns mainGlobals mg) : DefOf K mg D "parts_in" (D.kwOf 11) f11 := by
  obtain ⟨fd, F⟩ := c.def_ 11 (d := d11) rfl
  exact defOf_of F (He.glo_ok X G (c.fact 11 (f := .glo "parts_in") rfl)) sc11 ck11 rfl rfl bp11 bk11
theorem bp12 : BindP "is_rising" (defArgs (top 30)) (defBody (top 30)) (defScope (top 30)) ["value"] := fun kV doc pm an cdv ct us hl => match us, hl with | [_], _ => by kernel_rfl
theorem bk12 : BindK "is_rising" (defArgs (top 30)) (defBody (top 30)) (defScope (top 30)) ["value"] (D.kwOf 12) := by
  intro p hp
  have e : D.kwOf 12 = [] := by decide +kernel
  rw [e] at hp
  cases hp
theorem sc12 : scB N12 ["value"] (defScope (top 30)) = true := by decide +kernel
theorem ck12 : chkSs D N12 (defScope (top 30)) f12.body (defBody (top 30)) = true := by decide +kernel
theorem df12 (c : He.SaysD faD fnD K) (X : K.In h) (G : h.Ns mainGlobals mg) : DefOf K mg D "is_rising" (D.kwOf 12) f12 := by
  obtain ⟨fd, F⟩ := c.def_ 12 (d := d12) rfl
  exact defOf_of F (He.glo_ok X G (c.fact 12 (f := .glo "is_rising") rfl)) sc12 ck12 rfl rfl bp12 bk12
theorem bp13 : BindP "is_list_of_worlds" (defArgs (top 31)) (defBody (top 31)) (defScope (top 31)) ["value", "many"] := fun kV doc pm an cdv ct us hl => match us, hl with | [_, _], _ => by kernel_rfl
theorem bk13 : BindK "is_list_of_worlds" (defArgs (top 31)) (defBody (top 31)) (defScope (top 31)) ["value", "many"] (D.kwOf 13) := by
  intro p hp
  have e : D.kwOf 13 = [] := by decide +kernel
  rw [e] at hp
  cases hp
theorem sc13 : scB N13 ["value", "many"] (defScope (top 31)) = true := by decide +kernel
theorem ck13 : chkSs D N13 (defScope (top 31)) f13.body (defBody (top 31)) = true := by decide +kernel
theorem df13 (c : He.SaysD faD fnD K) (X : K.In h) (G : h.Ns mainGlobals mg) : DefOf K mg D "is_list_of_worlds" (D.kwOf 13) f13 := by
  obtain ⟨fd, F⟩ := c.def_ 13 (d := d13) rfl
  exact defOf_of F (He.glo_ok X G (c.fact 13 (f := .glo "is_list_of_worlds") rfl)) sc13 ck13 rfl rfl bp13 bk13
theorem bp14 : BindP "is_list_of_names" (defArgs (top 32)) (defBody (top 32)) (defScope (top 32)) ["value"] := fun kV doc pm an cdv ct us hl => match us, hl with | [_], _ => by kernel_rfl
theorem bk14 : BindK "is_list_of_names" (defArgs (top 32)) (defBody (top 32)) (defScope (top 32)) ["value"] (D.kwOf 14) := by
  intro p hp
  have e : D.kwOf 14 = [] := by decide +kernel
  rw [e] at hp
  cases hp
theorem sc14 : scB N14 ["value"] (defScope (top 32)) = true := by decide +kernel
theorem ck14 : chkSs D N14 (defScope (top 32)) f14.body (defBody (top 32)) = true := by decide +kernel
theorem df14 (c : He.SaysD faD fnD K) (X : K.In h) (G : h.Ns mainGlobals mg) : DefOf K mg D "is_list_of_names" (D.kwOf 14) f14 := by
  obtain ⟨fd, F⟩ := c.def_ 14 (d := d14) rfl
  exact defOf_of F (He.glo_ok X G (c.fact 14 (f := .glo "is_list_of_names") rfl)) sc14 ck14 rfl rfl bp14 bk14
theorem bp15 : BindP "are_ups" (defArgs (top 33)) (defBody (top 33)) (defScope (top 33)) ["ups", "many"] := fun kV doc pm an cdv ct us hl => match us, hl with | [_, _], _ => by kernel_rfl
theorem bk15 : BindK "are_ups" (defArgs (top 33)) (defBody (top 33)) (defScope (top 33)) ["ups", "many"] (D.kwOf 15) := by
  intro p hp
  have e : D.kwOf 15 = [] := by decide +kernel
  rw [e] at hp
  cases hp
theorem sc15 : scB N15 ["ups", "many"] (defScope (top 33)) = true := by decide +kernel
theorem ck15 : chkSs D N15 (defScope (top 33)) f15.body (defBody (top 33)) = true := by decide +kernel
theorem df15 (c : He.SaysD faD fnD K) (X : K.In h) (G : h.Ns mainGlobals mg) : DefOf K mg D "are_ups" (D.kwOf 15) f15 := by
  obtain ⟨fd, F⟩ := c.def_ 15 (d := d15) rfl
  exact defOf_of F (He.glo_ok X G (c.fact 15 (f := .glo "are_ups") rfl)) sc15 ck15 rfl rfl bp15 bk15
theorem bp16 : BindP "is_order_in" (defArgs (top 34)) (defBody (top 34)) (defScope (top 34)) ["value"] := fun kV doc pm an cdv ct us hl => match us, hl with | [_], _ => by kernel_rfl
theorem bk16 : BindK "is_order_in" (defArgs (top 34)) (defBody (top 34)) (defScope (top 34)) ["value"] (D.kwOf 16) := by
  intro p hp
  have e : D.kwOf 16 = [] := by decide +kernel
  rw [e] at hp
  cases hp
theorem sc16 : scB N16 ["value"] (defScope (top 34)) = true := by decide +kernel
theorem ck16 : chkSs D N16 (defScope (top 34)) f16.body (defBody (top 34)) = true := by decide +kernel
theorem df16 (c : He.SaysD faD fnD K) (X : K.In h) (G : h.Ns mainGlobals mg) : DefOf K mg D "is_order_in" (D.kwOf 16) f16 := by
  obtain ⟨fd, F⟩ := c.def_ 16 (d := d16) rfl
  exact defOf_of F (He.glo_ok X G (c.fact 16 (f := .glo "is_order_in") rfl)) sc16 ck16 rfl rfl bp16 bk16
theorem bp17 : BindP "is_order" (defArgs (top 35)) (defBody (top 35)) (defScope (top 35)) ["value"] := fun kV doc pm an cdv ct us hl => match us, hl with | [_], _ => by kernel_rfl
theorem bk17 : BindK "is_order" (defArgs (top 35)) (defBody (top 35)) (defScope (top 35)) ["value"] (D.kwOf 17) := by
  intro p hp
  have e : D.kwOf 17 = [] := by decide +kernel
  rw [e] at hp
  cases hp
theorem sc17 : scB N17 ["value"] (defScope (top 35)) = true := by decide +kernel
theorem ck17 : chkSs D N17 (defScope (top 35)) f17.body (defBody (top 35)) = true := by decide +kernel
theorem df17 (c : He.SaysD faD fnD K) (X : K.In h) (G : h.Ns mainGlobals mg) : DefOf K mg D "is_order" (D.kwOf 17) f17 := by
  obtain ⟨fd, F⟩ := c.def_ 17 (d := d17) rfl
  exact defOf_of F (He.glo_ok X G (c.fact 17 (f := .glo "is_order") rfl)) sc17 ck17 rfl rfl bp17 bk17
theorem bp18 : BindP "check_order" (defArgs (top 36)) (defBody (top 36)) (defScope (top 36)) ["order"] := fun kV doc pm an cdv ct us hl => match us, hl with | [_], _ => by kernel_rfl
theorem bk18 : BindK "check_order" (defArgs (top 36)) (defBody (top 36)) (defScope (top 36)) ["order"] (D.kwOf 18) := by
  intro p hp
  have e : D.kwOf 18 = [] := by decide +kernel
  rw [e] at hp
  cases hp
theorem sc18 : scB N18 ["order"] (defScope (top 36)) = true := by decide +kernel
theorem ck18 : chkSs D N18 (defScope (top 36)) f18.body (defBody (top 36)) = true := by decide +kernel
theorem df18 (c : He.SaysD faD fnD K) (X : K.In h) (G : h.Ns mainGlobals mg) : DefOf K mg D "check_order" (D.kwOf 18) f18 := by
  obtain ⟨fd, F⟩ := c.def_ 18 (d := d18) rfl
  exact defOf_of F (He.glo_ok X G (c.fact 18 (f := .glo "check_order") rfl)) sc18 ck18 rfl rfl bp18 bk18
theorem bp19 : BindP "worlds_by" (defArgs (top 37)) (defBody (top 37)) (defScope (top 37)) ["order", "formula", "known"] := fun kV doc pm an cdv ct us hl => match us, hl with | [_, _, _], _ => by kernel_rfl
theorem bk19 : BindK "worlds_by" (defArgs (top 37)) (defBody (top 37)) (defScope (top 37)) ["order", "formula", "known"] (D.kwOf 19) := by
  intro p hp
  have e : D.kwOf 19 = [] := by decide +kernel
  rw [e] at hp
  cases hp
theorem sc19 : scB N19 ["order", "formula", "known"] (defScope (top 37)) = true := by decide +kernel
theorem ck19 : chkSs D N19 (defScope (top 37)) f19.body (defBody (top 37)) = true := by decide +kernel
theorem df19 (c : He.SaysD faD fnD K) (X : K.In h) (G : h.Ns mainGlobals mg) : DefOf K mg D "worlds_by" (D.kwOf 19) f19 := by
  obtain ⟨fd, F⟩ := c.def_ 19 (d := d19) rfl
  exact defOf_of F (He.glo_ok X G (c.fact 19 (f := .glo "worlds_by") rfl)) sc19 ck19 rfl rfl bp19 bk19
theorem bp20 : BindP "standing_in" (defArgs (top 38)) (defBody (top 38)) (defScope (top 38)) ["order", "formula"] := fun kV doc pm an cdv ct us hl => match us, hl with | [_, _], _ => by kernel_rfl
theorem bk20 : BindK "standing_in" (defArgs (top 38)) (defBody (top 38)) (defScope (top 38)) ["order", "formula"] (D.kwOf 20) := by
  intro p hp
  have e : D.kwOf 20 = [] := by decide +kernel
  rw [e] at hp
  cases hp
theorem sc20 : scB N20 ["order", "formula"] (defScope (top 38)) = true := by decide +kernel
theorem ck20 : chkSs D N20 (defScope (top 38)) f20.body (defBody (top 38)) = true := by decide +kernel
theorem df20 (c : He.SaysD faD fnD K) (X : K.In h) (G : h.Ns mainGlobals mg) : DefOf K mg D "standing_in" (D.kwOf 20) f20 := by
  obtain ⟨fd, F⟩ := c.def_ 20 (d := d20) rfl
  exact defOf_of F (He.glo_ok X G (c.fact 20 (f := .glo "standing_in") rfl)) sc20 ck20 rfl rfl bp20 bk20
theorem bp21 : BindP "stands" (defArgs (top 39)) (defBody (top 39)) (defScope (top 39)) ["order", "formula", "world"] := fun kV doc pm an cdv ct us hl => match us, hl with | [_, _, _], _ => by kernel_rfl
theorem bk21 : BindK "stands" (defArgs (top 39)) (defBody (top 39)) (defScope (top 39)) ["order", "formula", "world"] (D.kwOf 21) := by
  intro p hp
  have e : D.kwOf 21 = [] := by decide +kernel
  rw [e] at hp
  cases hp
theorem sc21 : scB N21 ["order", "formula", "world"] (defScope (top 39)) = true := by decide +kernel
theorem ck21 : chkSs D N21 (defScope (top 39)) f21.body (defBody (top 39)) = true := by decide +kernel
theorem df21 (c : He.SaysD faD fnD K) (X : K.In h) (G : h.Ns mainGlobals mg) : DefOf K mg D "stands" (D.kwOf 21) f21 := by
  obtain ⟨fd, F⟩ := c.def_ 21 (d := d21) rfl
  exact defOf_of F (He.glo_ok X G (c.fact 21 (f := .glo "stands") rfl)) sc21 ck21 rfl rfl bp21 bk21
theorem bp22 : BindP "worlds_of" (defArgs (top 40)) (defBody (top 40)) (defScope (top 40)) ["order", "formula"] := fun kV doc pm an cdv ct us hl => match us, hl with | [_, _], _ => by kernel_rfl
theorem bk22 : BindK "worlds_of" (defArgs (top 40)) (defBody (top 40)) (defScope (top 40)) ["order", "formula"] (D.kwOf 22) := by
  intro p hp
  have e : D.kwOf 22 = [] := by decide +kernel
  rw [e] at hp
  cases hp
theorem sc22 : scB N22 ["order", "formula"] (defScope (top 40)) = true := by decide +kernel
theorem ck22 : chkSs D N22 (defScope (top 40)) f22.body (defBody (top 40)) = true := by decide +kernel
theorem df22 (c : He.SaysD faD fnD K) (X : K.In h) (G : h.Ns mainGlobals mg) : DefOf K mg D "worlds_of" (D.kwOf 22) f22 := by
  obtain ⟨fd, F⟩ := c.def_ 22 (d := d22) rfl
  exact defOf_of F (He.glo_ok X G (c.fact 22 (f := .glo "worlds_of") rfl)) sc22 ck22 rfl rfl bp22 bk22
theorem bp23 : BindP "is_against_in" (defArgs (top 41)) (defBody (top 41)) (defScope (top 41)) ["assumptions", "formula", "order"] := fun kV doc pm an cdv ct us hl => match us, hl with | [_, _, _], _ => by kernel_rfl
theorem bk23 : BindK "is_against_in" (defArgs (top 41)) (defBody (top 41)) (defScope (top 41)) ["assumptions", "formula", "order"] (D.kwOf 23) := by
  intro p hp
  have e : D.kwOf 23 = [] := by decide +kernel
  rw [e] at hp
  cases hp
theorem sc23 : scB N23 ["assumptions", "formula", "order"] (defScope (top 41)) = true := by decide +kernel
theorem ck23 : chkSs D N23 (defScope (top 41)) f23.body (defBody (top 41)) = true := by decide +kernel
theorem df23 (c : He.SaysD faD fnD K) (X : K.In h) (G : h.Ns mainGlobals mg) : DefOf K mg D "is_against_in" (D.kwOf 23) f23 := by
  obtain ⟨fd, F⟩ := c.def_ 23 (d := d23) rfl
  exact defOf_of F (He.glo_ok X G (c.fact 23 (f := .glo "is_against_in") rfl)) sc23 ck23 rfl rfl bp23 bk23
theorem bp24 : BindP "is_against" (defArgs (top 42)) (defBody (top 42)) (defScope (top 42)) ["assumptions", "formula", "value"] := fun kV doc pm an cdv ct us hl => match us, hl with | [_, _, _], _ => by kernel_rfl
theorem bk24 : BindK "is_against" (defArgs (top 42)) (defBody (top 42)) (defScope (top 42)) ["assumptions", "formula", "value"] (D.kwOf 24) := by
  intro p hp
  have e : D.kwOf 24 = [] := by decide +kernel
  rw [e] at hp
  cases hp
theorem sc24 : scB N24 ["assumptions", "formula", "value"] (defScope (top 42)) = true := by decide +kernel
theorem ck24 : chkSs D N24 (defScope (top 42)) f24.body (defBody (top 42)) = true := by decide +kernel
theorem df24 (c : He.SaysD faD fnD K) (X : K.In h) (G : h.Ns mainGlobals mg) : DefOf K mg D "is_against" (D.kwOf 24) f24 := by
  obtain ⟨fd, F⟩ := c.def_ 24 (d := d24) rfl
  exact defOf_of F (He.glo_ok X G (c.fact 24 (f := .glo "is_against") rfl)) sc24 ck24 rfl rfl bp24 bk24
theorem bp25 : BindP "raised_worlds" (defArgs (top 43)) (defBody (top 43)) (defScope (top 43)) ["ups", "number"] := fun kV doc pm an cdv ct us hl => match us, hl with | [_, _], _ => by kernel_rfl
theorem bk25 : BindK "raised_worlds" (defArgs (top 43)) (defBody (top 43)) (defScope (top 43)) ["ups", "number"] (D.kwOf 25) := by
  intro p hp
  have e : D.kwOf 25 = [] := by decide +kernel
  rw [e] at hp
  cases hp
theorem sc25 : scB N25 ["ups", "number"] (defScope (top 43)) = true := by decide +kernel
theorem ck25 : chkSs D N25 (defScope (top 43)) f25.body (defBody (top 43)) = true := by decide +kernel
theorem df25 (c : He.SaysD faD fnD K) (X : K.In h) (G : h.Ns mainGlobals mg) : DefOf K mg D "raised_worlds" (D.kwOf 25) f25 := by
  obtain ⟨fd, F⟩ := c.def_ 25 (d := d25) rfl
  exact defOf_of F (He.glo_ok X G (c.fact 25 (f := .glo "raised_worlds") rfl)) sc25 ck25 rfl rfl bp25 bk25
theorem bp26 : BindP "beside" (defArgs (top 44)) (defBody (top 44)) (defScope (top 44)) ["order", "other_order"] := fun kV doc pm an cdv ct us hl => match us, hl with | [_, _], _ => by kernel_rfl
theorem bk26 : BindK "beside" (defArgs (top 44)) (defBody (top 44)) (defScope (top 44)) ["order", "other_order"] (D.kwOf 26) := by
  intro p hp
  have e : D.kwOf 26 = [] := by decide +kernel
  rw [e] at hp
  cases hp
theorem sc26 : scB N26 ["order", "other_order"] (defScope (top 44)) = true := by decide +kernel
theorem ck26 : chkSs D N26 (defScope (top 44)) f26.body (defBody (top 44)) = true := by decide +kernel
theorem df26 (c : He.SaysD faD fnD K) (X : K.In h) (G : h.Ns mainGlobals mg) : DefOf K mg D "beside" (D.kwOf 26) f26 := by
  obtain ⟨fd, F⟩ := c.def_ 26 (d := d26) rfl
  exact defOf_of F (He.glo_ok X G (c.fact 26 (f := .glo "beside") rfl)) sc26 ck26 rfl rfl bp26 bk26
theorem bp27 : BindP "joined" (defArgs (top 45)) (defBody (top 45)) (defScope (top 45)) ["order", "other_order"] := fun kV doc pm an cdv ct us hl => match us, hl with | [_, _], _ => by kernel_rfl
theorem bk27 : BindK "joined" (defArgs (top 45)) (defBody (top 45)) (defScope (top 45)) ["order", "other_order"] (D.kwOf 27) := by
  intro p hp
  have e : D.kwOf 27 = [] := by decide +kernel
  rw [e] at hp
  cases hp
theorem sc27 : scB N27 ["order", "other_order"] (defScope (top 45)) = true := by decide +kernel
theorem ck27 : chkSs D N27 (defScope (top 45)) f27.body (defBody (top 45)) = true := by decide +kernel
theorem df27 (c : He.SaysD faD fnD K) (X : K.In h) (G : h.Ns mainGlobals mg) : DefOf K mg D "joined" (D.kwOf 27) f27 := by
  obtain ⟨fd, F⟩ := c.def_ 27 (d := d27) rfl
  exact defOf_of F (He.glo_ok X G (c.fact 27 (f := .glo "joined") rfl)) sc27 ck27 rfl rfl bp27 bk27
theorem bp28 : BindP "parts_by" (defArgs (top 46)) (defBody (top 46)) (defScope (top 46)) ["ups", "letters"] := fun kV doc pm an cdv ct us hl => match us, hl with | [_, _], _ => by kernel_rfl
theorem bk28 : BindK "parts_by" (defArgs (top 46)) (defBody (top 46)) (defScope (top 46)) ["ups", "letters"] (D.kwOf 28) := by
  intro p hp
  have e : D.kwOf 28 = [] := by decide +kernel
  rw [e] at hp
  cases hp
theorem sc28 : scB N28 ["ups", "letters"] (defScope (top 46)) = true := by decide +kernel
theorem ck28 : chkSs D N28 (defScope (top 46)) f28.body (defBody (top 46)) = true := by decide +kernel
theorem df28 (c : He.SaysD faD fnD K) (X : K.In h) (G : h.Ns mainGlobals mg) : DefOf K mg D "parts_by" (D.kwOf 28) f28 := by
  obtain ⟨fd, F⟩ := c.def_ 28 (d := d28) rfl
  exact defOf_of F (He.glo_ok X G (c.fact 28 (f := .glo "parts_by") rfl)) sc28 ck28 rfl rfl bp28 bk28
theorem bp29 : BindP "numbered_marks" (defArgs (top 47)) (defBody (top 47)) (defScope (top 47)) ["words"] := fun kV doc pm an cdv ct us hl => match us, hl with | [_], _ => by kernel_rfl
theorem bk29 : BindK "numbered_marks" (defArgs (top 47)) (defBody (top 47)) (defScope (top 47)) ["words"] (D.kwOf 29) := by
  intro p hp
  have e : D.kwOf 29 = [] := by decide +kernel
  rw [e] at hp
  cases hp
theorem sc29 : scB N29 ["words"] (defScope (top 47)) = true := by decide +kernel
theorem ck29 : chkSs D N29 (defScope (top 47)) f29.body (defBody (top 47)) = true := by decide +kernel
theorem df29 (c : He.SaysD faD fnD K) (X : K.In h) (G : h.Ns mainGlobals mg) : DefOf K mg D "numbered_marks" (D.kwOf 29) f29 := by
  obtain ⟨fd, F⟩ := c.def_ 29 (d := d29) rfl
  exact defOf_of F (He.glo_ok X G (c.fact 29 (f := .glo "numbered_marks") rfl)) sc29 ck29 rfl rfl bp29 bk29
theorem bp30 : BindP "alike_in" (defArgs (top 48)) (defBody (top 48)) (defScope (top 48)) ["order"] := fun kV doc pm an cdv ct us hl => match us, hl with | [_], _ => by kernel_rfl
theorem bk30 : BindK "alike_in" (defArgs (top 48)) (defBody (top 48)) (defScope (top 48)) ["order"] (D.kwOf 30) := by
  intro p hp
  have e : D.kwOf 30 = [] := by decide +kernel
  rw [e] at hp
  cases hp
theorem sc30 : scB N30 ["order"] (defScope (top 48)) = true := by decide +kernel
theorem ck30 : chkSs D N30 (defScope (top 48)) f30.body (defBody (top 48)) = true := by decide +kernel
theorem df30 (c : He.SaysD faD fnD K) (X : K.In h) (G : h.Ns mainGlobals mg) : DefOf K mg D "alike_in" (D.kwOf 30) f30 := by
  obtain ⟨fd, F⟩ := c.def_ 30 (d := d30) rfl
  exact defOf_of F (He.glo_ok X G (c.fact 30 (f := .glo "alike_in") rfl)) sc30 ck30 rfl rfl bp30 bk30
theorem bp31 : BindP "alike_parts" (defArgs (top 49)) (defBody (top 49)) (defScope (top 49)) ["order"] := fun kV doc pm an cdv ct us hl => match us, hl with | [_], _ => by kernel_rfl
theorem bk31 : BindK "alike_parts" (defArgs (top 49)) (defBody (top 49)) (defScope (top 49)) ["order"] (D.kwOf 31) := by
  intro p hp
  have e : D.kwOf 31 = [([("order" : PySem.Str)], [0])] := by decide +kernel
  rw [e] at hp
  rw [List.mem_singleton.mp hp]
  exact ⟨rfl, fun kV doc pm an cdv ct ws hl => match ws, hl with | [_], _ => by kernel_rfl⟩
theorem sc31 : scB N31 ["order"] (defScope (top 49)) = true := by decide +kernel
theorem ck31 : chkSs D N31 (defScope (top 49)) f31.body (defBody (top 49)) = true := by decide +kernel
theorem df31 (c : He.SaysD faD fnD K) (X : K.In h) (G : h.Ns mainGlobals mg) : DefOf K mg D "alike_parts" (D.kwOf 31) f31 := by
  obtain ⟨fd, F⟩ := c.def_ 31 (d := d31) rfl
  exact defOf_of F (He.glo_ok X G (c.fact 31 (f := .glo "alike_parts") rfl)) sc31 ck31 rfl rfl bp31 bk31
theorem bp32 : BindP "made_short" (defArgs (top 50)) (defBody (top 50)) (defScope (top 50)) ["order"] := fun kV doc pm an cdv ct us hl => match us, hl with | [_], _ => by kernel_rfl
theorem bk32 : BindK "made_short" (defArgs (top 50)) (defBody (top 50)) (defScope (top 50)) ["order"] (D.kwOf 32) := by
  intro p hp
  have e : D.kwOf 32 = [([("order" : PySem.Str)], [0])] := by decide +kernel
  rw [e] at hp
  rw [List.mem_singleton.mp hp]
  exact ⟨rfl, fun kV doc pm an cdv ct ws hl => match ws, hl with | [_], _ => by kernel_rfl⟩
theorem sc32 : scB N32 ["order"] (defScope (top 50)) = true := by decide +kernel
theorem ck32 : chkSs D N32 (defScope (top 50)) f32.body (defBody (top 50)) = true := by decide +kernel
theorem df32 (c : He.SaysD faD fnD K) (X : K.In h) (G : h.Ns mainGlobals mg) : DefOf K mg D "made_short" (D.kwOf 32) f32 := by
  obtain ⟨fd, F⟩ := c.def_ 32 (d := d32) rfl
  exact defOf_of F (He.glo_ok X G (c.fact 32 (f := .glo "made_short") rfl)) sc32 ck32 rfl rfl bp32 bk32
theorem bp33 : BindP "are_alike_orders" (defArgs (top 51)) (defBody (top 51)) (defScope (top 51)) ["order", "other_order"] := fun kV doc pm an cdv ct us hl => match us, hl with | [_, _], _ => by kernel_rfl
theorem bk33 : BindK "are_alike_orders" (defArgs (top 51)) (defBody (top 51)) (defScope (top 51)) ["order", "other_order"] (D.kwOf 33) := by
  intro p hp
  have e : D.kwOf 33 = [([("other_order" : PySem.Str), ("order" : PySem.Str)], [1, 0])] := by decide +kernel
  rw [e] at hp
  rw [List.mem_singleton.mp hp]
  exact ⟨rfl, fun kV doc pm an cdv ct ws hl => match ws, hl with | [_, _], _ => by kernel_rfl⟩
theorem sc33 : scB N33 ["order", "other_order"] (defScope (top 51)) = true := by decide +kernel
theorem ck33 : chkSs D N33 (defScope (top 51)) f33.body (defBody (top 51)) = true := by decide +kernel
theorem df33 (c : He.SaysD faD fnD K) (X : K.In h) (G : h.Ns mainGlobals mg) : DefOf K mg D "are_alike_orders" (D.kwOf 33) f33 := by
  obtain ⟨fd, F⟩ := c.def_ 33 (d := d33) rfl
  exact defOf_of F (He.glo_ok X G (c.fact 33 (f := .glo "are_alike_orders") rfl)) sc33 ck33 rfl rfl bp33 bk33
theorem bp34 : BindP "_law_hash" (defArgs (top 53)) (defBody (top 53)) (defScope (top 53)) ["seed", "index"] := fun kV doc pm an cdv ct us hl => match us, hl with | [_, _], _ => by kernel_rfl
theorem bk34 : BindK "_law_hash" (defArgs (top 53)) (defBody (top 53)) (defScope (top 53)) ["seed", "index"] (D.kwOf 34) := by
  intro p hp
  have e : D.kwOf 34 = [] := by decide +kernel
  rw [e] at hp
  cases hp
theorem sc34 : scB N34 ["seed", "index"] (defScope (top 53)) = true := by decide +kernel
theorem ck34 : chkSs D N34 (defScope (top 53)) f34.body (defBody (top 53)) = true := by decide +kernel
theorem df34 (c : He.SaysD faD fnD K) (X : K.In h) (G : h.Ns mainGlobals mg) : DefOf K mg D "_law_hash" (D.kwOf 34) f34 := by
  obtain ⟨fd, F⟩ := c.def_ 34 (d := d34) rfl
  exact defOf_of F (He.glo_ok X G (c.fact 34 (f := .glo "_law_hash") rfl)) sc34 ck34 rfl rfl bp34 bk34
theorem bp35 : BindP "_law_random" (defArgs (top 54)) (defBody (top 54)) (defScope (top 54)) ["generator", "bound"] := fun kV doc pm an cdv ct us hl => match us, hl with | [_, _], _ => by kernel_rfl
theorem bk35 : BindK "_law_random" (defArgs (top 54)) (defBody (top 54)) (defScope (top 54)) ["generator", "bound"] (D.kwOf 35) := by
  intro p hp
  have e : D.kwOf 35 = [] := by decide +kernel
  rw [e] at hp
  cases hp
theorem sc35 : scB N35 ["generator", "bound"] (defScope (top 54)) = true := by decide +kernel
theorem ck35 : chkSs D N35 (defScope (top 54)) f35.body (defBody (top 54)) = true := by decide +kernel
theorem df35 (c : He.SaysD faD fnD K) (X : K.In h) (G : h.Ns mainGlobals mg) : DefOf K mg D "_law_random" (D.kwOf 35) f35 := by
  obtain ⟨fd, F⟩ := c.def_ 35 (d := d35) rfl
  exact defOf_of F (He.glo_ok X G (c.fact 35 (f := .glo "_law_random") rfl)) sc35 ck35 rfl rfl bp35 bk35
theorem bp36 : BindP "_law_cell" (defArgs (top 55)) (defBody (top 55)) (defScope (top 55)) ["script", "index"] := fun kV doc pm an cdv ct us hl => match us, hl with | [_, _], _ => by kernel_rfl
theorem bk36 : BindK "_law_cell" (defArgs (top 55)) (defBody (top 55)) (defScope (top 55)) ["script", "index"] (D.kwOf 36) := by
  intro p hp
  have e : D.kwOf 36 = [] := by decide +kernel
  rw [e] at hp
  cases hp
theorem sc36 : scB N36 ["script", "index"] (defScope (top 55)) = true := by decide +kernel
theorem ck36 : chkSs D N36 (defScope (top 55)) f36.body (defBody (top 55)) = true := by decide +kernel
theorem df36 (c : He.SaysD faD fnD K) (X : K.In h) (G : h.Ns mainGlobals mg) : DefOf K mg D "_law_cell" (D.kwOf 36) f36 := by
  obtain ⟨fd, F⟩ := c.def_ 36 (d := d36) rfl
  exact defOf_of F (He.glo_ok X G (c.fact 36 (f := .glo "_law_cell") rfl)) sc36 ck36 rfl rfl bp36 bk36
theorem bp37 : BindP "_law_generator" (defArgs (top 56)) (defBody (top 56)) (defScope (top 56)) ["script", "index"] := fun kV doc pm an cdv ct us hl => match us, hl with | [_, _], _ => by kernel_rfl
theorem bk37 : BindK "_law_generator" (defArgs (top 56)) (defBody (top 56)) (defScope (top 56)) ["script", "index"] (D.kwOf 37) := by
  intro p hp
  have e : D.kwOf 37 = [] := by decide +kernel
  rw [e] at hp
  cases hp
theorem sc37 : scB N37 ["script", "index"] (defScope (top 56)) = true := by decide +kernel
theorem ck37 : chkSs D N37 (defScope (top 56)) f37.body (defBody (top 56)) = true := by decide +kernel
theorem df37 (c : He.SaysD faD fnD K) (X : K.In h) (G : h.Ns mainGlobals mg) : DefOf K mg D "_law_generator" (D.kwOf 37) f37 := by
  obtain ⟨fd, F⟩ := c.def_ 37 (d := d37) rfl
  exact defOf_of F (He.glo_ok X G (c.fact 37 (f := .glo "_law_generator") rfl)) sc37 ck37 rfl rfl bp37 bk37
theorem bp38 : BindP "_law_pick" (defArgs (top 57)) (defBody (top 57)) (defScope (top 57)) ["generator", "things"] := fun kV doc pm an cdv ct us hl => match us, hl with | [_, _], _ => by kernel_rfl
theorem bk38 : BindK "_law_pick" (defArgs (top 57)) (defBody (top 57)) (defScope (top 57)) ["generator", "things"] (D.kwOf 38) := by
  intro p hp
  have e : D.kwOf 38 = [] := by decide +kernel
  rw [e] at hp
  cases hp
theorem sc38 : scB N38 ["generator", "things"] (defScope (top 57)) = true := by decide +kernel
theorem ck38 : chkSs D N38 (defScope (top 57)) f38.body (defBody (top 57)) = true := by decide +kernel
theorem df38 (c : He.SaysD faD fnD K) (X : K.In h) (G : h.Ns mainGlobals mg) : DefOf K mg D "_law_pick" (D.kwOf 38) f38 := by
  obtain ⟨fd, F⟩ := c.def_ 38 (d := d38) rfl
  exact defOf_of F (He.glo_ok X G (c.fact 38 (f := .glo "_law_pick") rfl)) sc38 ck38 rfl rfl bp38 bk38
theorem bp39 : BindP "_law_same" (defArgs (top 58)) (defBody (top 58)) (defScope (top 58)) ["told", "due"] := fun kV doc pm an cdv ct us hl => match us, hl with | [_, _], _ => by kernel_rfl
theorem bk39 : BindK "_law_same" (defArgs (top 58)) (defBody (top 58)) (defScope (top 58)) ["told", "due"] (D.kwOf 39) := by
  intro p hp
  have e : D.kwOf 39 = [] := by decide +kernel
  rw [e] at hp
  cases hp
theorem sc39 : scB N39 ["told", "due"] (defScope (top 58)) = true := by decide +kernel
theorem ck39 : chkSs D N39 (defScope (top 58)) f39.body (defBody (top 58)) = true := by decide +kernel
theorem df39 (c : He.SaysD faD fnD K) (X : K.In h) (G : h.Ns mainGlobals mg) : DefOf K mg D "_law_same" (D.kwOf 39) f39 := by
  obtain ⟨fd, F⟩ := c.def_ 39 (d := d39) rfl
  exact defOf_of F (He.glo_ok X G (c.fact 39 (f := .glo "_law_same") rfl)) sc39 ck39 rfl rfl bp39 bk39
theorem bp40 : BindP "_law_some_formula" (defArgs (top 59)) (defBody (top 59)) (defScope (top 59)) ["generator", "letters", "deep"] := fun kV doc pm an cdv ct us hl => match us, hl with | [_, _, _], _ => by kernel_rfl
theorem bk40 : BindK "_law_some_formula" (defArgs (top 59)) (defBody (top 59)) (defScope (top 59)) ["generator", "letters", "deep"] (D.kwOf 40) := by
  intro p hp
  have e : D.kwOf 40 = [] := by decide +kernel
  rw [e] at hp
  cases hp
theorem sc40 : scB N40 ["generator", "letters", "deep"] (defScope (top 59)) = true := by decide +kernel
theorem ck40 : chkSs D N40 (defScope (top 59)) f40.body (defBody (top 59)) = true := by decide +kernel
theorem df40 (c : He.SaysD faD fnD K) (X : K.In h) (G : h.Ns mainGlobals mg) : DefOf K mg D "_law_some_formula" (D.kwOf 40) f40 := by
  obtain ⟨fd, F⟩ := c.def_ 40 (d := d40) rfl
  exact defOf_of F (He.glo_ok X G (c.fact 40 (f := .glo "_law_some_formula") rfl)) sc40 ck40 rfl rfl bp40 bk40
theorem bp41 : BindP "_law_worlds_by" (defArgs (top 60)) (defBody (top 60)) (defScope (top 60)) ["order", "formula"] := fun kV doc pm an cdv ct us hl => match us, hl with | [_, _], _ => by kernel_rfl
theorem bk41 : BindK "_law_worlds_by" (defArgs (top 60)) (defBody (top 60)) (defScope (top 60)) ["order", "formula"] (D.kwOf 41) := by
  intro p hp
  have e : D.kwOf 41 = [] := by decide +kernel
  rw [e] at hp
  cases hp
theorem sc41 : scB N41 ["order", "formula"] (defScope (top 60)) = true := by decide +kernel
theorem ck41 : chkSs D N41 (defScope (top 60)) f41.body (defBody (top 60)) = true := by decide +kernel
theorem df41 (c : He.SaysD faD fnD K) (X : K.In h) (G : h.Ns mainGlobals mg) : DefOf K mg D "_law_worlds_by" (D.kwOf 41) f41 := by
  obtain ⟨fd, F⟩ := c.def_ 41 (d := d41) rfl
  exact defOf_of F (He.glo_ok X G (c.fact 41 (f := .glo "_law_worlds_by") rfl)) sc41 ck41 rfl rfl bp41 bk41
theorem bp42 : BindP "_law_is_rising" (defArgs (top 61)) (defBody (top 61)) (defScope (top 61)) ["value"] := fun kV doc pm an cdv ct us hl => match us, hl with | [_], _ => by kernel_rfl
theorem bk42 : BindK "_law_is_rising" (defArgs (top 61)) (defBody (top 61)) (defScope (top 61)) ["value"] (D.kwOf 42) := by
  intro p hp
  have e : D.kwOf 42 = [] := by decide +kernel
  rw [e] at hp
  cases hp
theorem sc42 : scB N42 ["value"] (defScope (top 61)) = true := by decide +kernel
theorem ck42 : chkSs D N42 (defScope (top 61)) f42.body (defBody (top 61)) = true := by decide +kernel
theorem df42 (c : He.SaysD faD fnD K) (X : K.In h) (G : h.Ns mainGlobals mg) : DefOf K mg D "_law_is_rising" (D.kwOf 42) f42 := by
  obtain ⟨fd, F⟩ := c.def_ 42 (d := d42) rfl
  exact defOf_of F (He.glo_ok X G (c.fact 42 (f := .glo "_law_is_rising") rfl)) sc42 ck42 rfl rfl bp42 bk42
theorem bp43 : BindP "_law_is_name" (defArgs (top 62)) (defBody (top 62)) (defScope (top 62)) ["value"] := fun kV doc pm an cdv ct us hl => match us, hl with | [_], _ => by kernel_rfl
theorem bk43 : BindK "_law_is_name" (defArgs (top 62)) (defBody (top 62)) (defScope (top 62)) ["value"] (D.kwOf 43) := by
  intro p hp
  have e : D.kwOf 43 = [] := by decide +kernel
  rw [e] at hp
  cases hp
theorem sc43 : scB N43 ["value"] (defScope (top 62)) = true := by decide +kernel
theorem ck43 : chkSs D N43 (defScope (top 62)) f43.body (defBody (top 62)) = true := by decide +kernel
theorem df43 (c : He.SaysD faD fnD K) (X : K.In h) (G : h.Ns mainGlobals mg) : DefOf K mg D "_law_is_name" (D.kwOf 43) f43 := by
  obtain ⟨fd, F⟩ := c.def_ 43 (d := d43) rfl
  exact defOf_of F (He.glo_ok X G (c.fact 43 (f := .glo "_law_is_name") rfl)) sc43 ck43 rfl rfl bp43 bk43
theorem bp44 : BindP "_law_is_whole" (defArgs (top 63)) (defBody (top 63)) (defScope (top 63)) ["value"] := fun kV doc pm an cdv ct us hl => match us, hl with | [_], _ => by kernel_rfl
theorem bk44 : BindK "_law_is_whole" (defArgs (top 63)) (defBody (top 63)) (defScope (top 63)) ["value"] (D.kwOf 44) := by
  intro p hp
  have e : D.kwOf 44 = [] := by decide +kernel
  rw [e] at hp
  cases hp
theorem sc44 : scB N44 ["value"] (defScope (top 63)) = true := by decide +kernel
theorem ck44 : chkSs D N44 (defScope (top 63)) f44.body (defBody (top 63)) = true := by decide +kernel
theorem df44 (c : He.SaysD faD fnD K) (X : K.In h) (G : h.Ns mainGlobals mg) : DefOf K mg D "_law_is_whole" (D.kwOf 44) f44 := by
  obtain ⟨fd, F⟩ := c.def_ 44 (d := d44) rfl
  exact defOf_of F (He.glo_ok X G (c.fact 44 (f := .glo "_law_is_whole") rfl)) sc44 ck44 rfl rfl bp44 bk44
theorem bp45 : BindP "_law_is_order" (defArgs (top 64)) (defBody (top 64)) (defScope (top 64)) ["value"] := fun kV doc pm an cdv ct us hl => match us, hl with | [_], _ => by kernel_rfl
theorem bk45 : BindK "_law_is_order" (defArgs (top 64)) (defBody (top 64)) (defScope (top 64)) ["value"] (D.kwOf 45) := by
  intro p hp
  have e : D.kwOf 45 = [] := by decide +kernel
  rw [e] at hp
  cases hp
theorem sc45 : scB N45 ["value"] (defScope (top 64)) = true := by decide +kernel
theorem ck45 : chkSs D N45 (defScope (top 64)) f45.body (defBody (top 64)) = true := by decide +kernel
theorem df45 (c : He.SaysD faD fnD K) (X : K.In h) (G : h.Ns mainGlobals mg) : DefOf K mg D "_law_is_order" (D.kwOf 45) f45 := by
  obtain ⟨fd, F⟩ := c.def_ 45 (d := d45) rfl
  exact defOf_of F (He.glo_ok X G (c.fact 45 (f := .glo "_law_is_order") rfl)) sc45 ck45 rfl rfl bp45 bk45
theorem bp46 : BindP "_law_lots" (defArgs (top 65)) (defBody (top 65)) (defScope (top 65)) ["things"] := fun kV doc pm an cdv ct us hl => match us, hl with | [_], _ => by kernel_rfl
theorem bk46 : BindK "_law_lots" (defArgs (top 65)) (defBody (top 65)) (defScope (top 65)) ["things"] (D.kwOf 46) := by
  intro p hp
  have e : D.kwOf 46 = [] := by decide +kernel
  rw [e] at hp
  cases hp
theorem sc46 : scB N46 ["things"] (defScope (top 65)) = true := by decide +kernel
theorem ck46 : chkSs D N46 (defScope (top 65)) f46.body (defBody (top 65)) = true := by decide +kernel
theorem df46 (c : He.SaysD faD fnD K) (X : K.In h) (G : h.Ns mainGlobals mg) : DefOf K mg D "_law_lots" (D.kwOf 46) f46 := by
  obtain ⟨fd, F⟩ := c.def_ 46 (d := d46) rfl
  exact defOf_of F (He.glo_ok X G (c.fact 46 (f := .glo "_law_lots") rfl)) sc46 ck46 rfl rfl bp46 bk46
theorem bp47 : BindP "_law_all_orders" (defArgs (top 66)) (defBody (top 66)) (defScope (top 66)) ["many", "names"] := fun kV doc pm an cdv ct us hl => match us, hl with | [_, _], _ => by kernel_rfl
theorem bk47 : BindK "_law_all_orders" (defArgs (top 66)) (defBody (top 66)) (defScope (top 66)) ["many", "names"] (D.kwOf 47) := by
  intro p hp
  have e : D.kwOf 47 = [] := by decide +kernel
  rw [e] at hp
  cases hp
theorem sc47 : scB N47 ["many", "names"] (defScope (top 66)) = true := by decide +kernel
theorem ck47 : chkSs D N47 (defScope (top 66)) f47.body (defBody (top 66)) = true := by decide +kernel
theorem df47 (c : He.SaysD faD fnD K) (X : K.In h) (G : h.Ns mainGlobals mg) : DefOf K mg D "_law_all_orders" (D.kwOf 47) f47 := by
  obtain ⟨fd, F⟩ := c.def_ 47 (d := d47) rfl
  exact defOf_of F (He.glo_ok X G (c.fact 47 (f := .glo "_law_all_orders") rfl)) sc47 ck47 rfl rfl bp47 bk47
theorem bp48 : BindP "_law_marks" (defArgs (top 67)) (defBody (top 67)) (defScope (top 67)) ["words"] := fun kV doc pm an cdv ct us hl => match us, hl with | [_], _ => by kernel_rfl
theorem bk48 : BindK "_law_marks" (defArgs (top 67)) (defBody (top 67)) (defScope (top 67)) ["words"] (D.kwOf 48) := by
  intro p hp
  have e : D.kwOf 48 = [] := by decide +kernel
  rw [e] at hp
  cases hp
theorem sc48 : scB N48 ["words"] (defScope (top 67)) = true := by decide +kernel
theorem ck48 : chkSs D N48 (defScope (top 67)) f48.body (defBody (top 67)) = true := by decide +kernel
theorem df48 (c : He.SaysD faD fnD K) (X : K.In h) (G : h.Ns mainGlobals mg) : DefOf K mg D "_law_marks" (D.kwOf 48) f48 := by
  obtain ⟨fd, F⟩ := c.def_ 48 (d := d48) rfl
  exact defOf_of F (He.glo_ok X G (c.fact 48 (f := .glo "_law_marks") rfl)) sc48 ck48 rfl rfl bp48 bk48
theorem bp49 : BindP "_law_alike_marks" (defArgs (top 68)) (defBody (top 68)) (defScope (top 68)) ["order"] := fun kV doc pm an cdv ct us hl => match us, hl with | [_], _ => by kernel_rfl
theorem bk49 : BindK "_law_alike_marks" (defArgs (top 68)) (defBody (top 68)) (defScope (top 68)) ["order"] (D.kwOf 49) := by
  intro p hp
  have e : D.kwOf 49 = [] := by decide +kernel
  rw [e] at hp
  cases hp
theorem sc49 : scB N49 ["order"] (defScope (top 68)) = true := by decide +kernel
theorem ck49 : chkSs D N49 (defScope (top 68)) f49.body (defBody (top 68)) = true := by decide +kernel
theorem df49 (c : He.SaysD faD fnD K) (X : K.In h) (G : h.Ns mainGlobals mg) : DefOf K mg D "_law_alike_marks" (D.kwOf 49) f49 := by
  obtain ⟨fd, F⟩ := c.def_ 49 (d := d49) rfl
  exact defOf_of F (He.glo_ok X G (c.fact 49 (f := .glo "_law_alike_marks") rfl)) sc49 ck49 rfl rfl bp49 bk49
theorem bp50 : BindP "_law_some_order" (defArgs (top 69)) (defBody (top 69)) (defScope (top 69)) ["generator"] := fun kV doc pm an cdv ct us hl => match us, hl with | [_], _ => by kernel_rfl
theorem bk50 : BindK "_law_some_order" (defArgs (top 69)) (defBody (top 69)) (defScope (top 69)) ["generator"] (D.kwOf 50) := by
  intro p hp
  have e : D.kwOf 50 = [] := by decide +kernel
  rw [e] at hp
  cases hp
theorem sc50 : scB N50 ["generator"] (defScope (top 69)) = true := by decide +kernel
theorem ck50 : chkSs D N50 (defScope (top 69)) f50.body (defBody (top 69)) = true := by decide +kernel
theorem df50 (c : He.SaysD faD fnD K) (X : K.In h) (G : h.Ns mainGlobals mg) : DefOf K mg D "_law_some_order" (D.kwOf 50) f50 := by
  obtain ⟨fd, F⟩ := c.def_ 50 (d := d50) rfl
  exact defOf_of F (He.glo_ok X G (c.fact 50 (f := .glo "_law_some_order") rfl)) sc50 ck50 rfl rfl bp50 bk50
theorem bp51 : BindP "_law_built" (defArgs (top 70)) (defBody (top 70)) (defScope (top 70)) ["generator"] := fun kV doc pm an cdv ct us hl => match us, hl with | [_], _ => by kernel_rfl
theorem bk51 : BindK "_law_built" (defArgs (top 70)) (defBody (top 70)) (defScope (top 70)) ["generator"] (D.kwOf 51) := by
  intro p hp
  have e : D.kwOf 51 = [] := by decide +kernel
  rw [e] at hp
  cases hp
theorem sc51 : scB N51 ["generator"] (defScope (top 70)) = true := by decide +kernel
theorem ck51 : chkSs D N51 (defScope (top 70)) f51.body (defBody (top 70)) = true := by decide +kernel
theorem df51 (c : He.SaysD faD fnD K) (X : K.In h) (G : h.Ns mainGlobals mg) : DefOf K mg D "_law_built" (D.kwOf 51) f51 := by
  obtain ⟨fd, F⟩ := c.def_ 51 (d := d51) rfl
  exact defOf_of F (He.glo_ok X G (c.fact 51 (f := .glo "_law_built") rfl)) sc51 ck51 rfl rfl bp51 bk51
theorem bp52 : BindP "_law_short_right" (defArgs (top 71)) (defBody (top 71)) (defScope (top 71)) ["generator", "order"] := fun kV doc pm an cdv ct us hl => match us, hl with | [_, _], _ => by kernel_rfl
theorem bk52 : BindK "_law_short_right" (defArgs (top 71)) (defBody (top 71)) (defScope (top 71)) ["generator", "order"] (D.kwOf 52) := by
  intro p hp
  have e : D.kwOf 52 = [] := by decide +kernel
  rw [e] at hp
  cases hp
theorem sc52 : scB N52 ["generator", "order"] (defScope (top 71)) = true := by decide +kernel
theorem ck52 : chkSs D N52 (defScope (top 71)) f52.body (defBody (top 71)) = true := by decide +kernel
theorem df52 (c : He.SaysD faD fnD K) (X : K.In h) (G : h.Ns mainGlobals mg) : DefOf K mg D "_law_short_right" (D.kwOf 52) f52 := by
  obtain ⟨fd, F⟩ := c.def_ 52 (d := d52) rfl
  exact defOf_of F (He.glo_ok X G (c.fact 52 (f := .glo "_law_short_right") rfl)) sc52 ck52 rfl rfl bp52 bk52
theorem bp53 : BindP "_law_two_right" (defArgs (top 72)) (defBody (top 72)) (defScope (top 72)) ["generator"] := fun kV doc pm an cdv ct us hl => match us, hl with | [_], _ => by kernel_rfl
theorem bk53 : BindK "_law_two_right" (defArgs (top 72)) (defBody (top 72)) (defScope (top 72)) ["generator"] (D.kwOf 53) := by
  intro p hp
  have e : D.kwOf 53 = [] := by decide +kernel
  rw [e] at hp
  cases hp
theorem sc53 : scB N53 ["generator"] (defScope (top 72)) = true := by decide +kernel
theorem ck53 : chkSs D N53 (defScope (top 72)) f53.body (defBody (top 72)) = true := by decide +kernel
theorem df53 (c : He.SaysD faD fnD K) (X : K.In h) (G : h.Ns mainGlobals mg) : DefOf K mg D "_law_two_right" (D.kwOf 53) f53 := by
  obtain ⟨fd, F⟩ := c.def_ 53 (d := d53) rfl
  exact defOf_of F (He.glo_ok X G (c.fact 53 (f := .glo "_law_two_right") rfl)) sc53 ck53 rfl rfl bp53 bk53
theorem bp54 : BindP "law" (defArgs (top 73)) (defBody (top 73)) (defScope (top 73)) ["script"] := fun kV doc pm an cdv ct us hl => match us, hl with | [_], _ => by kernel_rfl
theorem bk54 : BindK "law" (defArgs (top 73)) (defBody (top 73)) (defScope (top 73)) ["script"] (D.kwOf 54) := by
  intro p hp
  have e : D.kwOf 54 = [] := by decide +kernel
  rw [e] at hp
  cases hp
theorem sc54 : scB N54 ["script"] (defScope (top 73)) = true := by decide +kernel
theorem ck54 : chkSs D N54 (defScope (top 73)) f54.body (defBody (top 73)) = true := by decide +kernel
theorem df54 (c : He.SaysD faD fnD K) (X : K.In h) (G : h.Ns mainGlobals mg) : DefOf K mg D "law" (D.kwOf 54) f54 := by
  obtain ⟨fd, F⟩ := c.def_ 54 (d := d54) rfl
  exact defOf_of F (He.glo_ok X G (c.fact 54 (f := .glo "law") rfl)) sc54 ck54 rfl rfl bp54 bk54
theorem fnAll (c : He.SaysD faD fnD K) (X : K.In h) (G : h.Ns mainGlobals mg) : ∀ f x, D.names[f]? = some x → ∃ d, P[f]? = some d ∧ DefOf K mg D x (D.kwOf f) d := by
  intro f x hx
  match f, hx with
  | 0, hx => cases hx; exact ⟨f0, rfl, df0 c X G⟩
  | 1, hx => cases hx; exact ⟨f1, rfl, df1 c X G⟩
  | 2, hx => cases hx; exact ⟨f2, rfl, df2 c X G⟩
  | 3, hx => cases hx; exact ⟨f3, rfl, df3 c X G⟩
  | 4, hx => cases hx; exact ⟨f4, rfl, df4 c X G⟩
  | 5, hx => cases hx; exact ⟨f5, rfl, df5 c X G⟩
  | 6, hx => cases hx; exact ⟨f6, rfl, df6 c X G⟩
  | 7, hx => cases hx; exact ⟨f7, rfl, df7 c X G⟩
  | 8, hx => cases hx; exact ⟨f8, rfl, df8 c X G⟩
  | 9, hx => cases hx; exact ⟨f9, rfl, df9 c X G⟩
  | 10, hx => cases hx; exact ⟨f10, rfl, df10 c X G⟩
  | 11, hx => cases hx; exact ⟨f11, rfl, df11 c X G⟩
  | 12, hx => cases hx; exact ⟨f12, rfl, df12 c X G⟩
  | 13, hx => cases hx; exact ⟨f13, rfl, df13 c X G⟩
  | 14, hx => cases hx; exact ⟨f14, rfl, df14 c X G⟩
  | 15, hx => cases hx; exact ⟨f15, rfl, df15 c X G⟩
  | 16, hx => cases hx; exact ⟨f16, rfl, df16 c X G⟩
  | 17, hx => cases hx; exact ⟨f17, rfl, df17 c X G⟩
  | 18, hx => cases hx; exact ⟨f18, rfl, df18 c X G⟩
  | 19, hx => cases hx; exact ⟨f19, rfl, df19 c X G⟩
  | 20, hx => cases hx; exact ⟨f20, rfl, df20 c X G⟩
  | 21, hx => cases hx; exact ⟨f21, rfl, df21 c X G⟩
  | 22, hx => cases hx; exact ⟨f22, rfl, df22 c X G⟩
  | 23, hx => cases hx; exact ⟨f23, rfl, df23 c X G⟩
  | 24, hx => cases hx; exact ⟨f24, rfl, df24 c X G⟩
  | 25, hx => cases hx; exact ⟨f25, rfl, df25 c X G⟩
  | 26, hx => cases hx; exact ⟨f26, rfl, df26 c X G⟩
  | 27, hx => cases hx; exact ⟨f27, rfl, df27 c X G⟩
  | 28, hx => cases hx; exact ⟨f28, rfl, df28 c X G⟩
  | 29, hx => cases hx; exact ⟨f29, rfl, df29 c X G⟩
  | 30, hx => cases hx; exact ⟨f30, rfl, df30 c X G⟩
  | 31, hx => cases hx; exact ⟨f31, rfl, df31 c X G⟩
  | 32, hx => cases hx; exact ⟨f32, rfl, df32 c X G⟩
  | 33, hx => cases hx; exact ⟨f33, rfl, df33 c X G⟩
  | 34, hx => cases hx; exact ⟨f34, rfl, df34 c X G⟩
  | 35, hx => cases hx; exact ⟨f35, rfl, df35 c X G⟩
  | 36, hx => cases hx; exact ⟨f36, rfl, df36 c X G⟩
  | 37, hx => cases hx; exact ⟨f37, rfl, df37 c X G⟩
  | 38, hx => cases hx; exact ⟨f38, rfl, df38 c X G⟩
  | 39, hx => cases hx; exact ⟨f39, rfl, df39 c X G⟩
  | 40, hx => cases hx; exact ⟨f40, rfl, df40 c X G⟩
  | 41, hx => cases hx; exact ⟨f41, rfl, df41 c X G⟩
  | 42, hx => cases hx; exact ⟨f42, rfl, df42 c X G⟩
  | 43, hx => cases hx; exact ⟨f43, rfl, df43 c X G⟩
  | 44, hx => cases hx; exact ⟨f44, rfl, df44 c X G⟩
  | 45, hx => cases hx; exact ⟨f45, rfl, df45 c X G⟩
  | 46, hx => cases hx; exact ⟨f46, rfl, df46 c X G⟩
  | 47, hx => cases hx; exact ⟨f47, rfl, df47 c X G⟩
  | 48, hx => cases hx; exact ⟨f48, rfl, df48 c X G⟩
  | 49, hx => cases hx; exact ⟨f49, rfl, df49 c X G⟩
  | 50, hx => cases hx; exact ⟨f50, rfl, df50 c X G⟩
  | 51, hx => cases hx; exact ⟨f51, rfl, df51 c X G⟩
  | 52, hx => cases hx; exact ⟨f52, rfl, df52 c X G⟩
  | 53, hx => cases hx; exact ⟨f53, rfl, df53 c X G⟩
  | 54, hx => cases hx; exact ⟨f54, rfl, df54 c X G⟩
  | m + 55, hx => exact absurd hx (by rw [List.getElem?_eq_none (show D.names.length ≤ m + 55 from Nat.le_add_left _ _)]; exact nofun)
end Fx.K53
end

section
set_option Elab.async false
set_option linter.all false
set_option maxRecDepth 1000000
set_option maxHeartbeats 0
/-! En53: the law holds where the evaluator says True (printed by endgen.py). -/
namespace Fx.K53
open PySem PySem.Spec PyProof.Rows L2 Fx
variable {K : PySem.W.Frag} {mg : Str → Option Value} {h : Heap}
theorem sR {w : World} {ρ : List Addr} {B : Addr → Prop} {H : Hp} (x : Str) (s : List Nat) (e : x = ⟨s.toArray⟩) (hs : ∀ c ∈ s, c < 0x110000) : R w K ρ B H true (.str x) (.str s) [] := by
  subst e
  exact .str s hs
theorem bltAll (c : He.SaysD faD fnD K) (X : K.In h) (G : h.Ns mainGlobals mg) : ∀ x ∈ bltNames, mg x = none := by
  intro x hx
  simp only [bltNames, List.mem_cons, List.not_mem_nil, or_false] at hx
  rcases hx with rfl | rfl | rfl | rfl | rfl | rfl | rfl | rfl | rfl | rfl | rfl | rfl | rfl | rfl | rfl
  · exact He.free_ok X G (c.fact 55 (f := .free "len") rfl)
  · exact He.free_ok X G (c.fact 56 (f := .free "list") rfl)
  · exact He.free_ok X G (c.fact 57 (f := .free "sum") rfl)
  · exact He.free_ok X G (c.fact 58 (f := .free "int") rfl)
  · exact He.free_ok X G (c.fact 59 (f := .free "max") rfl)
  · exact He.free_ok X G (c.fact 60 (f := .free "repr") rfl)
  · exact He.free_ok X G (c.fact 61 (f := .free "sorted") rfl)
  · exact He.free_ok X G (c.fact 62 (f := .free "set") rfl)
  · exact He.free_ok X G (c.fact 63 (f := .free "range") rfl)
  · exact He.free_ok X G (c.fact 64 (f := .free "enumerate") rfl)
  · exact He.free_ok X G (c.fact 65 (f := .free "zip") rfl)
  · exact He.free_ok X G (c.fact 66 (f := .free "isinstance") rfl)
  · exact He.free_ok X G (c.fact 67 (f := .free "str") rfl)
  · exact He.free_ok X G (c.fact 68 (f := .free "bool") rfl)
  · exact He.free_ok X G (c.fact 69 (f := .free "tuple") rfl)
theorem conAll (w : World) (c : He.SaysD faD fnD K) (ce : exD K = true) (X : K.In h) (G : h.Ns mainGlobals mg) : ∀ p ∈ D.cons, ∃ v u, mg p.1 = some u ∧ L2.RelV v u ∧ ∀ ρ B H, R w K ρ B H true v p.2 [] := by
  intro p hp
  simp only [D, List.mem_cons, List.not_mem_nil, or_false] at hp
  unfold exD at ce
  obtain ⟨ce, et1⟩ := He.ba ce
  have et0 := ce
  rcases hp with rfl | rfl | rfl | rfl | rfl | rfl | rfl | rfl | rfl
  · obtain ⟨t, e⟩ := He.str_ok X G (c.fact 70 (f := .str "SMALL" "abcdefghijklmnopqrstuvwxyz") rfl)
    have e2 : ("abcdefghijklmnopqrstuvwxyz" : PySem.Str) = ⟨([97, 98, 99, 100, 101, 102, 103, 104, 105, 106, 107, 108, 109, 110, 111, 112, 113, 114, 115, 116, 117, 118, 119, 120, 121, 122] : List Nat).toArray⟩ := by decide +kernel
    rw [e2] at e
    exact ⟨.str ⟨([97, 98, 99, 100, 101, 102, 103, 104, 105, 106, 107, 108, 109, 110, 111, 112, 113, 114, 115, 116, 117, 118, 119, 120, 121, 122] : List Nat).toArray⟩, _, e, ⟨t, rfl⟩, fun _ _ _ => .str _ (by decide +kernel)⟩
  · obtain ⟨t, e⟩ := He.int_ok X G (c.fact 71 (f := .int "MOST_LETTERS" 12) rfl)
    exact ⟨.int 12, _, e, ⟨t, rfl⟩, fun _ _ _ => .int _⟩
  · obtain ⟨t, e⟩ := He.str_ok X G (c.fact 72 (f := .str "FIGURES" "0123456789") rfl)
    have e2 : ("0123456789" : PySem.Str) = ⟨([48, 49, 50, 51, 52, 53, 54, 55, 56, 57] : List Nat).toArray⟩ := by decide +kernel
    rw [e2] at e
    exact ⟨.str ⟨([48, 49, 50, 51, 52, 53, 54, 55, 56, 57] : List Nat).toArray⟩, _, e, ⟨t, rfl⟩, fun _ _ _ => .str _ (by decide +kernel)⟩
  · refine ⟨.ref (He.ga K "JOINERS"), _, He.glo_ok X G (c.fact 73 (f := .glo "JOINERS") rfl), rfl, fun ρ B H => .tup (He.tupB_ok et0 H) ?_⟩
    exact (.cons (A := []) (A' := []) (sR "and" [97, 110, 100] (by decide +kernel) (by decide +kernel)) (.cons (A := []) (A' := []) (sR "or" [111, 114] (by decide +kernel) (by decide +kernel)) (.cons (A := []) (A' := []) (sR "then" [116, 104, 101, 110] (by decide +kernel) (by decide +kernel)) .nil)))
  · refine ⟨.ref (He.ga K "NO"), _, He.glo_ok X G (c.fact 74 (f := .glo "NO") rfl), rfl, fun ρ B H => .tup (He.tupB_ok et1 H) ?_⟩
    exact (.cons (A := []) (A' := []) (sR "no" [110, 111] (by decide +kernel) (by decide +kernel)) .nil)
  · obtain ⟨t, e⟩ := He.int_ok X G (c.fact 75 (f := .int "MOST_SIGNS" 200) rfl)
    exact ⟨.int 200, _, e, ⟨t, rfl⟩, fun _ _ _ => .int _⟩
  · obtain ⟨t, e⟩ := He.int_ok X G (c.fact 76 (f := .int "MOST_DEEP" 60) rfl)
    exact ⟨.int 60, _, e, ⟨t, rfl⟩, fun _ _ _ => .int _⟩
  · obtain ⟨t, e⟩ := He.int_ok X G (c.fact 77 (f := .int "MOST_ASSUMED" 20) rfl)
    exact ⟨.int 20, _, e, ⟨t, rfl⟩, fun _ _ _ => .int _⟩
  · obtain ⟨t, e⟩ := He.int_ok X G (c.fact 78 (f := .int "MOST_WORLDS" 60) rfl)
    exact ⟨.int 60, _, e, ⟨t, rfl⟩, fun _ _ _ => .int _⟩
theorem mdl (w : World) (c : He.SaysD faD fnD K) (ce : exD K = true) (X : K.In h) (G : h.Ns mainGlobals mg) : Mdl K mg w D P := ⟨bltAll c X G, conAll w c ce X G, fnAll c X G⟩
theorem holds_of (ev : ∀ ns : List Int, ns.length ≤ 63 → ∃ (fl : Nat) (g' : List T), evalF P 100 (30 + 1) 54 [T.fro (ns.map T.int)] [] = Out.ok (.bl true, fl) g') : PySem.Challenge.rw_proofsrun_k53_whole_alike_worlds_made_on.Holds := by
  w_on; o_law
  refine HandSHeadRun.head_any (r := PySem.W.OpenLaw.row PySem.Challenge.rw_proofsrun_k53_whole_alike_worlds_made_on) (q := PySem.W.view RR.prog [73]) (H := hk) (ob := ob) (M := 4000) (loose := looseN) (d := HandSHeadRun.topDef RR.prog 73) (kwd := []) ob_eq
    (by kernel_rfl) (fun s => by kernel_rfl) run (by kernel_rfl) (by kernel_rfl) (by kernel_rfl) (by rfl) (by first | assumption | decide +kernel) (by decide +kernel) ⟨rfl, rfl, rfl, rfl, rfl, by decide +kernel⟩ ?hw ?hc
  case hw => w_witness2
  case hc =>
    refine walk_fx (l := PySem.Challenge.rw_proofsrun_k53_whole_alike_worlds_made_on) (n := 63) (k := 30) (x := "script") (P := P) (D := D) (W := 100) (d0 := f54) rfl (by decide) (by kernel_rfl) ⟨rfl, by decide, by decide⟩ rfl (by decide) ?F ?E
    case E =>
      intro ns hl
      obtain ⟨fl, g', e⟩ := ev ns hl
      exact ⟨fl, g', e⟩
    case F =>
      intro w mg fa h Y G hmg0
      obtain ⟨K, KX, c⟩ := Y
      have hmg : mg ("law" : PySem.Str) = some (.ref fa) := by
        have e : (HandSHeadRun.topDef RR.prog 73).name = ("law" : PySem.Str) := by kernel_rfl
        rw [← e]
        exact hmg0
      have cd := c.t.d
      refine ⟨K, KX, mdl w cd c.more KX G, ?_⟩
      obtain ⟨fd, F⟩ := cd.def_ 54 (d := d54) rfl
      have e := hmg.symm.trans (He.glo_ok KX G (cd.fact 54 (f := .glo "law") rfl))
      cases e
      exact lawOf_of F sc54 ck54 rfl bp54
end Fx.K53
end

section
set_option Elab.async false
set_option linter.all false
/-! Om1: numbering by first occurrence. -/
namespace Fx.Om
section
variable {α β γ : Type} [DecidableEq α] [DecidableEq β] [DecidableEq γ]

theorem nodup_get {xs : List α} (h : xs.Nodup) {i j : Nat} (hi : i < xs.length) (hj : j < xs.length) (e : xs[i] = xs[j]) : i = j := by
  rw [List.nodup_iff_pairwise_ne, List.pairwise_iff_getElem] at h
  rcases Nat.lt_trichotomy i j with c | c | c
  · exact absurd e (h i j hi hj c)
  · exact c
  · exact absurd e.symm (h j i hj hi c)
theorem mem_once {a : α} : ∀ {xs : List α}, a ∈ once xs ↔ a ∈ xs
  | [] => by simp [once]
  | b :: r => by
    by_cases h : a = b
    · simp [once, h]
    · simp [once, h, mem_once (xs := r)]
theorem nodup_once : ∀ xs : List α, (once xs).Nodup
  | [] => by simp [once]
  | b :: r => by
    simp only [once, List.nodup_cons]
    exact ⟨by simp, (nodup_once r).filter _⟩
theorem once_nil : once ([] : List α) = [] := rfl
theorem once_map {f : α → β} : ∀ {xs : List α}, (∀ a ∈ xs, ∀ b ∈ xs, f a = f b → a = b) → once (xs.map f) = (once xs).map f
  | [], _ => rfl
  | a :: r, h => by
    simp only [once, List.map_cons]
    rw [once_map (fun x hx y hy => h x (List.mem_cons_of_mem _ hx) y (List.mem_cons_of_mem _ hy)), List.filter_map]
    congr 2
    apply List.filter_congr
    intro x hx
    have hx' := mem_once.mp hx
    by_cases e : x = a
    · simp [e]
    · have : f x ≠ f a := fun q => e (h x (List.mem_cons_of_mem _ hx') a List.mem_cons_self q)
      simp [e, this]
theorem once_of_nodup : ∀ {xs : List α}, xs.Nodup → once xs = xs
  | [], _ => rfl
  | a :: r, h => by
    rw [List.nodup_cons] at h
    simp only [once, once_of_nodup h.2]
    congr 1
    apply List.filter_eq_self.mpr
    intro x hx
    have : x ≠ a := fun e => h.1 (e ▸ hx)
    simpa using this
theorem once_length_le : ∀ xs : List α, (once xs).length ≤ xs.length
  | [] => Nat.le_refl _
  | a :: r => by
    simp only [once, List.length_cons]
    exact Nat.succ_le_succ (Nat.le_trans (List.length_filter_le _ _) (once_length_le r))
theorem nodup_of_once_length : ∀ {xs : List α}, (once xs).length = xs.length → xs.Nodup
  | [], _ => List.nodup_nil
  | a :: r, h => by
    simp only [once, List.length_cons] at h
    have h1 := List.length_filter_le (fun x => decide (x ≠ a)) (once r)
    have h2 := once_length_le r
    have e1 : (once r).length = r.length := by omega
    have e2 : ((once r).filter fun x => decide (x ≠ a)).length = (once r).length := by omega
    rw [List.length_filter_eq_length_iff] at e2
    refine List.nodup_cons.mpr ⟨fun m => ?_, nodup_of_once_length e1⟩
    simpa using e2 a (mem_once.mpr m)
theorem nodup_sub_length : ∀ {xs ys : List α}, xs.Nodup → (∀ a ∈ xs, a ∈ ys) → xs.length ≤ ys.length
  | [], _, _, _ => Nat.zero_le _
  | a :: r, ys, h, s => by
    rw [List.nodup_cons] at h
    have m := s a List.mem_cons_self
    have := nodup_sub_length (ys := ys.erase a) h.2 (fun b hb => (List.mem_erase_of_ne (fun e : b = a => h.1 (e ▸ hb))).mpr (s b (List.mem_cons_of_mem _ hb)))
    rw [List.length_erase_of_mem m] at this
    have p := List.length_pos_of_mem m
    simp only [List.length_cons]
    omega
/-- how many unlike ones -/
def cnt (xs : List α) : Nat := (once xs).length
theorem cnt_congr {xs ys : List α} (h : ∀ a, a ∈ xs ↔ a ∈ ys) : cnt xs = cnt ys :=
  Nat.le_antisymm (nodup_sub_length (nodup_once xs) fun a m => mem_once.mpr ((h a).mp (mem_once.mp m))) (nodup_sub_length (nodup_once ys) fun a m => mem_once.mpr ((h a).mpr (mem_once.mp m)))
theorem cnt_le (xs : List α) : cnt xs ≤ xs.length := once_length_le xs
theorem cnt_map_once (f : α → β) (xs : List α) : cnt (xs.map f) = cnt ((once xs).map f) := cnt_congr fun b => by
  simp only [List.mem_map, mem_once]
theorem cnt_map_le (f : α → β) (xs : List α) : cnt (xs.map f) ≤ cnt xs := by
  rw [cnt_map_once]
  exact Nat.le_trans (cnt_le _) (by rw [List.length_map]; exact Nat.le_refl _)
theorem inj_of_cnt {f : α → β} {xs : List α} (h : cnt (xs.map f) = cnt xs) : ∀ a ∈ xs, ∀ b ∈ xs, f a = f b → a = b := by
  rw [cnt_map_once] at h
  have nd : ((once xs).map f).Nodup := nodup_of_once_length (by rw [List.length_map]; exact h)
  intro a ha b hb e
  have ha' := mem_once.mpr ha
  have hb' := mem_once.mpr hb
  obtain ⟨i, hi, rfl⟩ := List.mem_iff_getElem.mp ha'
  obtain ⟨j, hj, rfl⟩ := List.mem_iff_getElem.mp hb'
  have := nodup_get nd (i := i) (j := j) (by simpa using hi) (by simpa using hj) (by simpa using e)
  subst this
  rfl
theorem cnt_map_inj {f : α → β} {xs : List α} (h : ∀ a ∈ xs, ∀ b ∈ xs, f a = f b → a = b) : cnt (xs.map f) = cnt xs := by
  unfold cnt
  rw [once_map h, List.length_map]

theorem idxOf_map {f : α → β} {a : α} : ∀ {xs : List α}, (∀ b ∈ xs, f b = f a → b = a) → (xs.map f).idxOf (f a) = xs.idxOf a
  | [], _ => rfl
  | b :: r, h => by
    have ih := idxOf_map (f := f) (a := a) (xs := r) fun c hc => h c (List.mem_cons_of_mem _ hc)
    simp only [List.map_cons, List.idxOf_cons]
    by_cases e : b = a
    · simp [e]
    · have : f b ≠ f a := fun q => e (h b List.mem_cons_self q)
      have t1 : (f b == f a) = false := beq_eq_false_iff_ne.mpr this
      have t2 : (b == a) = false := beq_eq_false_iff_ne.mpr e
      rw [t1, t2, ih]
theorem idxOf_inj {a b : α} {xs : List α} (ha : a ∈ xs) (hb : b ∈ xs) (h : xs.idxOf a = xs.idxOf b) : a = b := by
  have h1 := List.getElem_idxOf (List.idxOf_lt_length_of_mem ha)
  have h2 := List.getElem_idxOf (List.idxOf_lt_length_of_mem hb)
  rw [← h1, ← h2]
  simp only [h]
theorem idxOf_get {xs : List α} (h : xs.Nodup) (i : Nat) (hi : i < xs.length) : xs.idxOf xs[i] = i := by
  have hm : xs[i] ∈ xs := List.getElem_mem hi
  have h1 := List.getElem_idxOf (List.idxOf_lt_length_of_mem hm)
  exact nodup_get h (List.idxOf_lt_length_of_mem hm) hi h1

/-- of each one the number, as they come -/
def num (xs : List α) : List Nat := xs.map fun x => (once xs).idxOf x
@[simp] theorem num_length (xs : List α) : (num xs).length = xs.length := by simp [num]
theorem num_map {f : α → β} {xs : List α} (h : ∀ a ∈ xs, ∀ b ∈ xs, f a = f b → a = b) : num (xs.map f) = num xs := by
  unfold num
  rw [once_map h, List.map_map]
  apply List.map_congr_left
  intro a ha
  exact idxOf_map fun b hb e => h b (mem_once.mp hb) a ha e
theorem num_kernel {xs : List α} {ys : List β} (hl : xs.length = ys.length) (h : ∀ i j (hi : i < xs.length) (hj : j < xs.length), xs[i] = xs[j] ↔ ys[i]'(hl ▸ hi) = ys[j]'(hl ▸ hj)) : num xs = num ys := by
  have e1 : (xs.zip ys).map Prod.fst = xs := List.map_fst_zip (Nat.le_of_eq hl)
  have e2 : (xs.zip ys).map Prod.snd = ys := List.map_snd_zip (Nat.le_of_eq hl.symm)
  have key : ∀ a ∈ xs.zip ys, ∀ b ∈ xs.zip ys, (a.1 = b.1 ↔ a.2 = b.2) := by
    intro a ha b hb
    obtain ⟨i, hi, rfl⟩ := List.mem_iff_getElem.mp ha
    obtain ⟨j, hj, rfl⟩ := List.mem_iff_getElem.mp hb
    simp only [List.getElem_zip]
    exact h i j (by rw [List.length_zip] at hi; omega) (by rw [List.length_zip] at hj; omega)
  have n1 : num ((xs.zip ys).map Prod.fst) = num (xs.zip ys) := num_map fun a ha b hb e => Prod.ext e ((key a ha b hb).mp e)
  have n2 : num ((xs.zip ys).map Prod.snd) = num (xs.zip ys) := num_map fun a ha b hb e => Prod.ext ((key a ha b hb).mpr e) e
  rw [e1] at n1
  rw [e2] at n2
  rw [n1, n2]
theorem num_inj {xs : List α} : ∀ a ∈ xs, ∀ b ∈ xs, (once xs).idxOf a = (once xs).idxOf b → a = b := fun a ha b hb e => idxOf_inj (mem_once.mpr ha) (mem_once.mpr hb) e
theorem num_num (xs : List α) : num (num xs) = num xs := by
  have := num_map (xs := xs) (f := fun x => (once xs).idxOf x) num_inj
  exact this
theorem cnt_num (xs : List α) : cnt (num xs) = cnt xs := cnt_map_inj (xs := xs) (f := fun x => (once xs).idxOf x) num_inj
theorem map_idxOf_self {l : List α} (h : l.Nodup) : l.map (fun x => l.idxOf x) = List.range l.length := by
  apply List.ext_getElem
  · simp
  · intro i h1 h2
    simp only [List.getElem_map, List.getElem_range]
    exact idxOf_get h i (by simpa using h1)
theorem once_num (xs : List α) : once (num xs) = List.range (cnt xs) := by
  have := once_map (xs := xs) (f := fun x => (once xs).idxOf x) num_inj
  unfold num
  rw [this, map_idxOf_self (nodup_once xs)]
  rfl
theorem num_get (xs : List α) (i j : Nat) (hi : i < xs.length) (hj : j < xs.length) : (num xs)[i]'(by simpa using hi) = (num xs)[j]'(by simpa using hj) ↔ xs[i] = xs[j] := by
  simp only [num, List.getElem_map]
  exact ⟨fun e => num_inj _ (List.getElem_mem hi) _ (List.getElem_mem hj) e, fun e => by rw [e]⟩
theorem mem_num {xs : List α} {k : Nat} : k ∈ num xs ↔ k < cnt xs := by
  rw [← mem_once, once_num, List.mem_range]
end
end Fx.Om
end

section
set_option Elab.async false
set_option linter.all false
/-! Om2: parting of alike worlds by turns; its end. -/
namespace Fx.Om
section
variable {α β : Type}

theorem mem_ins {le : α → α → Bool} {a b : α} : ∀ {xs : List α}, b ∈ ins le a xs ↔ b = a ∨ b ∈ xs
  | [] => by simp [ins]
  | c :: r => by
    unfold ins
    split
    · simp
    · simp only [List.mem_cons, mem_ins (xs := r)]
      exact ⟨fun h => h.elim (fun h => .inr (.inl h)) fun h => h.elim .inl fun h => .inr (.inr h), fun h => h.elim (fun h => .inr (.inl h)) fun h => h.elim .inl fun h => .inr (.inr h)⟩
theorem mem_isort {le : α → α → Bool} {b : α} : ∀ {xs : List α}, b ∈ isort le xs ↔ b ∈ xs
  | [] => by simp [isort]
  | a :: r => by simp [isort, mem_ins, mem_isort (xs := r)]
end
/-- rising -/
abbrev Rise (xs : List Nat) : Prop := xs.Pairwise (· < ·)
theorem rise_ins {a : Nat} : ∀ {xs : List Nat}, Rise xs → a ∉ xs → Rise (ins (fun a b => decide (a ≤ b)) a xs)
  | [], _, _ => by simp [ins, Rise]
  | b :: r, h, n => by
    unfold ins
    have h' := List.pairwise_cons.mp h
    simp only [List.mem_cons, not_or] at n
    split
    · rename_i e
      have e := of_decide_eq_true e
      refine List.pairwise_cons.mpr ⟨fun c hc => ?_, h⟩
      rcases List.mem_cons.mp hc with rfl | hc
      · omega
      · have := h'.1 c hc; omega
    · rename_i e
      have e : ¬ a ≤ b := fun q => e (decide_eq_true q)
      refine List.pairwise_cons.mpr ⟨fun c hc => ?_, rise_ins h'.2 n.2⟩
      rcases mem_ins.mp hc with rfl | hc
      · omega
      · exact h'.1 c hc
theorem rise_isort : ∀ {xs : List Nat}, xs.Nodup → Rise (isort (fun a b => decide (a ≤ b)) xs)
  | [], _ => by simp [isort, Rise]
  | a :: r, h => by
    rw [List.nodup_cons] at h
    exact rise_ins (rise_isort h.2) fun m => h.1 (mem_isort.mp m)
theorem rise_ext : ∀ {xs ys : List Nat}, Rise xs → Rise ys → (∀ a, a ∈ xs ↔ a ∈ ys) → xs = ys
  | [], [], _, _, _ => rfl
  | [], b :: r, _, _, h => absurd ((h b).mpr List.mem_cons_self) (by simp)
  | a :: r, [], _, _, h => absurd ((h a).mp List.mem_cons_self) (by simp)
  | a :: r, b :: q, h1, h2, h => by
    have h1' := List.pairwise_cons.mp h1
    have h2' := List.pairwise_cons.mp h2
    have e : a = b := by
      have m1 := (h a).mp List.mem_cons_self
      have m2 := (h b).mpr List.mem_cons_self
      rcases List.mem_cons.mp m1 with e | m1
      · exact e
      · rcases List.mem_cons.mp m2 with e | m2
        · exact e.symm
        · have := h1'.1 b m2; have := h2'.1 a m1; omega
    subst e
    congr 1
    refine rise_ext h1'.2 h2'.2 fun c => ?_
    have hc := h c
    simp only [List.mem_cons] at hc
    constructor
    · intro m
      rcases hc.mp (.inr m) with e | q
      · have := h1'.1 c m; omega
      · exact q
    · intro m
      rcases hc.mpr (.inr m) with e | q
      · have := h2'.1 c m; omega
      · exact q
theorem rise_nodup {xs : List Nat} (h : Rise xs) : xs.Nodup := h.imp fun e => Nat.ne_of_lt e
theorem rise_range (n : Nat) : Rise (List.range n) := List.pairwise_lt_range
/-- sorted(set(xs)) -/
def sset (xs : List Nat) : List Nat := isort (fun a b => decide (a ≤ b)) (once xs)
theorem mem_sset {a : Nat} {xs : List Nat} : a ∈ sset xs ↔ a ∈ xs := by rw [sset, mem_isort, mem_once]
theorem rise_sset (xs : List Nat) : Rise (sset xs) := rise_isort (nodup_once xs)
theorem sset_ext {xs ys : List Nat} (h : ∀ a, a ∈ xs ↔ a ∈ ys) : sset xs = sset ys := rise_ext (rise_sset xs) (rise_sset ys) fun a => by rw [mem_sset, mem_sset, h]
theorem mem_of_sset {xs ys : List Nat} (h : sset xs = sset ys) {a : Nat} (m : a ∈ xs) : a ∈ ys := mem_sset.mp (h ▸ mem_sset.mpr m)

/-- at a place -/
abbrev nth (m : List Nat) (i : Nat) : Nat := m.getD i 0
abbrev upAt (ups : List (List Nat)) (i : Nat) : List Nat := ups.getD i []
theorem nth_eq {m : List Nat} {i : Nat} (h : i < m.length) : nth m i = m[i] := by simp [nth, List.getD_eq_getElem?_getD, h]
theorem upAt_eq {u : List (List Nat)} {i : Nat} (h : i < u.length) : upAt u i = u[i] := by simp [upAt, List.getD_eq_getElem?_getD, h]
theorem upAt_mem {u : List (List Nat)} {i : Nat} (h : i < u.length) : upAt u i ∈ u := by rw [upAt_eq h]; exact List.getElem_mem h
theorem upAt_out {u : List (List Nat)} {i : Nat} (h : ¬ i < u.length) : upAt u i = [] := by simp [upAt, List.getD_eq_getElem?_getD, List.getElem?_eq_none (Nat.le_of_not_lt h)]
def wordOf (m : List Nat) (p : Nat × List Nat) : Nat × List Nat := (nth m p.1, sset (p.2.map (nth m)))
def wordsBy (ups : List (List Nat)) (m : List Nat) : List (Nat × List Nat) := ((List.range ups.length).zip ups).map (wordOf m)
def turnOf (ups : List (List Nat)) (m : List Nat) : List Nat := num (wordsBy ups m)
@[simp] theorem wordsBy_length (ups : List (List Nat)) (m : List Nat) : (wordsBy ups m).length = ups.length := by simp [wordsBy]
@[simp] theorem turnOf_length (ups : List (List Nat)) (m : List Nat) : (turnOf ups m).length = ups.length := by simp [turnOf]
theorem wordsBy_get (ups : List (List Nat)) (m : List Nat) (i : Nat) (h : i < ups.length) : (wordsBy ups m)[i]'(by simpa using h) = (nth m i, sset ((upAt ups i).map (nth m))) := by
  rw [upAt_eq h]
  simp [wordsBy, wordOf]
theorem wordsBy_fst {ups : List (List Nat)} {m : List Nat} (h : m.length = ups.length) : (wordsBy ups m).map Prod.fst = m := by
  apply List.ext_getElem
  · simp [h]
  · intro i h1 h2
    rw [List.getElem_map, wordsBy_get ups m i (by omega), nth_eq h2]
theorem turnOf_kernel {ups : List (List Nat)} {m : List Nat} {i j : Nat} (hi : i < ups.length) (hj : j < ups.length) :
    nth (turnOf ups m) i = nth (turnOf ups m) j ↔ nth m i = nth m j ∧ sset ((upAt ups i).map (nth m)) = sset ((upAt ups j).map (nth m)) := by
  rw [nth_eq (by simpa using hi), nth_eq (by simpa using hj)]
  have := num_get (wordsBy ups m) i j (by simpa using hi) (by simpa using hj)
  rw [wordsBy_get ups m i hi, wordsBy_get ups m j hj, Prod.mk.injEq] at this
  exact this
theorem turnOf_canon (ups : List (List Nat)) (m : List Nat) : num (turnOf ups m) = turnOf ups m := num_num _
theorem cnt_turnOf_le {ups : List (List Nat)} {m : List Nat} (h : m.length = ups.length) : cnt m ≤ cnt (turnOf ups m) := by
  have := cnt_map_le Prod.fst (wordsBy ups m)
  rw [wordsBy_fst h] at this
  rw [turnOf, cnt_num]
  exact this
theorem turnOf_stable {ups : List (List Nat)} {m : List Nat} (h : m.length = ups.length) (hc : num m = m) (e : cnt (turnOf ups m) = cnt m) : turnOf ups m = m := by
  rw [turnOf, cnt_num] at e
  have e' : cnt ((wordsBy ups m).map Prod.fst) = cnt (wordsBy ups m) := by rw [wordsBy_fst h]; exact e.symm
  have := num_map (inj_of_cnt e')
  rw [wordsBy_fst h, hc] at this
  exact this.symm
def iter (ups : List (List Nat)) : Nat → List Nat → List Nat
  | 0, m => m
  | k + 1, m => iter ups k (turnOf ups m)
theorem iter_length {ups : List (List Nat)} : ∀ (k : Nat) {m : List Nat}, m.length = ups.length → (iter ups k m).length = ups.length
  | 0, _, h => h
  | k + 1, _, _ => iter_length k (by simp)
theorem iter_canon {ups : List (List Nat)} : ∀ (k : Nat) {m : List Nat}, num m = m → num (iter ups k m) = iter ups k m
  | 0, _, h => h
  | k + 1, _, _ => iter_canon k (turnOf_canon _ _)
theorem iter_fixed {ups : List (List Nat)} {m : List Nat} (h : turnOf ups m = m) : ∀ k, iter ups k m = m
  | 0 => rfl
  | k + 1 => by rw [iter, h]; exact iter_fixed h k
theorem iter_stable {ups : List (List Nat)} : ∀ (k : Nat) {m : List Nat}, m.length = ups.length → num m = m → ups.length ≤ k + cnt m → turnOf ups (iter ups k m) = iter ups k m
  | 0, m, h, hc, hk => by
    have h1 := cnt_turnOf_le h
    have h2 := cnt_le (turnOf ups m)
    rw [turnOf_length] at h2
    have e : cnt (turnOf ups m) = cnt m := by omega
    exact turnOf_stable h hc e
  | k + 1, m, h, hc, hk => by
    by_cases e : cnt (turnOf ups m) = cnt m
    · have s := turnOf_stable h hc e
      rw [iter_fixed s, s]
    · have h1 := cnt_turnOf_le h
      exact iter_stable k (by simp) (turnOf_canon _ _) (by omega)
theorem iter_succ {ups : List (List Nat)} : ∀ (k : Nat) (m : List Nat), iter ups (k + 1) m = turnOf ups (iter ups k m)
  | 0, _ => rfl
  | k + 1, m => by
    rw [iter, iter_succ k (turnOf ups m)]
    rfl
theorem iter_refines {ups : List (List Nat)} {i j : Nat} (hi : i < ups.length) (hj : j < ups.length) : ∀ (k : Nat) {m : List Nat}, nth (iter ups k m) i = nth (iter ups k m) j → nth m i = nth m j
  | 0, _, h => h
  | k + 1, m, h => ((turnOf_kernel hi hj).mp (iter_refines hi hj k h)).1

section
variable {α : Type} [DecidableEq α]
/-- the parts of alike worlds -/
def marks (ups : List (List Nat)) (lets : List α) : List Nat := iter ups ups.length (num lets)
/-- a relation that keeps letters and what is seen -/
structure Bis (ups : List (List Nat)) (lets : List α) (ups' : List (List Nat)) (lets' : List α) (R : Nat → Nat → Prop) : Prop where
  lt : ∀ {i j}, R i j → i < ups.length ∧ j < ups'.length
  lets : ∀ {i j}, R i j → lets[i]? = lets'[j]?
  fw : ∀ {i j}, R i j → ∀ v ∈ upAt ups i, ∃ v' ∈ upAt ups' j, R v v'
  bw : ∀ {i j}, R i j → ∀ v' ∈ upAt ups' j, ∃ v ∈ upAt ups i, R v v'
variable {ups : List (List Nat)} {lets : List α}
theorem marks_length (h : lets.length = ups.length) : (marks ups lets).length = ups.length := iter_length _ (by simpa using h)
theorem marks_canon : num (marks ups lets) = marks ups lets := iter_canon _ (num_num _)
theorem marks_fixed (h : lets.length = ups.length) : turnOf ups (marks ups lets) = marks ups lets := iter_stable _ (by simpa using h) (num_num _) (by omega)
theorem num_nth {xs : List α} {i j : Nat} (hi : i < xs.length) (hj : j < xs.length) : nth (num xs) i = nth (num xs) j ↔ xs[i]? = xs[j]? := by
  rw [nth_eq (by simpa using hi), nth_eq (by simpa using hj), num_get xs i j hi hj, List.getElem?_eq_getElem hi, List.getElem?_eq_getElem hj, Option.some.injEq]
theorem marks_lets (h : lets.length = ups.length) {i j : Nat} (hi : i < ups.length) (hj : j < ups.length) (e : nth (marks ups lets) i = nth (marks ups lets) j) : lets[i]? = lets[j]? :=
  (num_nth (by omega) (by omega)).mp (iter_refines hi hj _ e)
theorem marks_see (h : lets.length = ups.length) {i j : Nat} (hi : i < ups.length) (hj : j < ups.length) (e : nth (marks ups lets) i = nth (marks ups lets) j) :
    sset ((upAt ups i).map (nth (marks ups lets))) = sset ((upAt ups j).map (nth (marks ups lets))) := by
  have f := marks_fixed h
  rw [← f] at e
  exact ((turnOf_kernel hi hj).mp e).2
theorem bis_iter {R : Nat → Nat → Prop} (B : Bis ups lets ups lets R) : ∀ (k : Nat) {m : List Nat}, (∀ i j, R i j → nth m i = nth m j) → ∀ i j, R i j → nth (iter ups k m) i = nth (iter ups k m) j
  | 0, _, h => h
  | k + 1, m, h => bis_iter B k fun i j r => by
    obtain ⟨hi, hj⟩ := B.lt r
    refine (turnOf_kernel hi hj).mpr ⟨h i j r, sset_ext fun a => ?_⟩
    simp only [List.mem_map]
    constructor
    · rintro ⟨v, hv, rfl⟩
      obtain ⟨v', hv', r'⟩ := B.fw r v hv
      exact ⟨v', hv', (h _ _ r').symm⟩
    · rintro ⟨v', hv', rfl⟩
      obtain ⟨v, hv, r'⟩ := B.bw r v' hv'
      exact ⟨v, hv, h _ _ r'⟩
theorem marks_bis {R : Nat → Nat → Prop} (h : lets.length = ups.length) (B : Bis ups lets ups lets R) {i j : Nat} (r : R i j) : nth (marks ups lets) i = nth (marks ups lets) j :=
  bis_iter B _ (fun i j r => (num_nth (by have := B.lt r; omega) (by have := B.lt r; omega)).mpr (B.lets r)) i j r
/-- alike worlds keep letters and what is seen -/
theorem bis_marks (h : lets.length = ups.length) (hu : ∀ u ∈ ups, ∀ v ∈ u, v < ups.length) : Bis ups lets ups lets fun i j => i < ups.length ∧ j < ups.length ∧ nth (marks ups lets) i = nth (marks ups lets) j where
  lt := fun r => ⟨r.1, r.2.1⟩
  lets := fun r => marks_lets h r.1 r.2.1 r.2.2
  fw := fun {i j} r v hv => by
    have s := marks_see h r.1 r.2.1 r.2.2
    obtain ⟨v', hv', e⟩ := List.mem_map.mp (mem_of_sset s (List.mem_map.mpr ⟨v, hv, rfl⟩))
    exact ⟨v', hv', hu _ (upAt_mem r.1) v hv, hu _ (upAt_mem r.2.1) v' hv', e.symm⟩
  bw := fun {i j} r v hv => by
    have s := marks_see h r.1 r.2.1 r.2.2
    obtain ⟨v', hv', e⟩ := List.mem_map.mp (mem_of_sset s.symm (List.mem_map.mpr ⟨v, hv, rfl⟩))
    exact ⟨v', hv', hu _ (upAt_mem r.1) v' hv', hu _ (upAt_mem r.2.1) v hv, e⟩
end
end Fx.Om
end

section
set_option Elab.async false
set_option linter.all false
/-! Om3: orders; the order of the parts; orders side by side. -/
namespace Fx.Om
abbrev letAt (l : List (List (List Nat))) (i : Nat) : List (List Nat) := l.getD i []
theorem letAt_eq {l : List (List (List Nat))} {i : Nat} (h : i < l.length) : letAt l i = l[i] := by simp [letAt, List.getD_eq_getElem?_getD, h]
theorem letAt_congr {l l' : List (List (List Nat))} {i j : Nat} (h : l[i]? = l'[j]?) : letAt l i = letAt l' j := by simp [letAt, List.getD_eq_getElem?_getD, h]
theorem letAt_some {l : List (List (List Nat))} {i : Nat} (h : i < l.length) : l[i]? = some (letAt l i) := by rw [letAt_eq h]; exact List.getElem?_eq_getElem h
structure WF (Nm : List (List Nat) → Prop) (ups : List (List Nat)) (lets : List (List (List Nat))) : Prop where
  pos : 0 < ups.length
  ll : lets.length = ups.length
  root : upAt ups 0 = List.range ups.length
  rise : ∀ u ∈ ups, Rise u
  lt : ∀ u ∈ ups, ∀ v ∈ u, v < ups.length
  refl : ∀ i, i < ups.length → i ∈ upAt ups i
  trans : ∀ i, i < ups.length → ∀ j ∈ upAt ups i, ∀ k ∈ upAt ups j, k ∈ upAt ups i
  anti : ∀ i, i < ups.length → ∀ j ∈ upAt ups i, i ∈ upAt ups j → i = j
  names : ∀ l ∈ lets, Nm l
  mono : ∀ i, i < ups.length → ∀ j ∈ upAt ups i, ∀ x ∈ letAt lets i, x ∈ letAt lets j
variable {Nm : List (List Nat) → Prop} {ups : List (List Nat)} {lets : List (List (List Nat))}
theorem WF.ltAt (h : WF Nm ups lets) {i j : Nat} (m : j ∈ upAt ups i) : j < ups.length := by
  by_cases c : i < ups.length
  · exact h.lt _ (upAt_mem c) _ m
  · rw [upAt_out c] at m; cases m

/-! ### the parts -/
def many (ups : List (List Nat)) (lets : List (List (List Nat))) : Nat := cnt (marks ups lets)
def rep (ups : List (List Nat)) (lets : List (List (List Nat))) (k : Nat) : Nat := (marks ups lets).idxOf k
def shortUps (ups : List (List Nat)) (lets : List (List (List Nat))) : List (List Nat) := (List.range (many ups lets)).map fun k => sset ((upAt ups (rep ups lets k)).map (nth (marks ups lets)))
def shortLets (ups : List (List Nat)) (lets : List (List (List Nat))) : List (List (List Nat)) := (List.range (many ups lets)).map fun k => letAt lets (rep ups lets k)
theorem mem_marks {k : Nat} : k ∈ marks ups lets ↔ k < many ups lets := by
  have := mem_num (xs := marks ups lets) (k := k)
  rw [marks_canon] at this
  exact this
theorem rep_lt (h : lets.length = ups.length) {k : Nat} (hk : k < many ups lets) : rep ups lets k < ups.length := by
  have := List.idxOf_lt_length_of_mem (mem_marks.mpr hk)
  rwa [marks_length h] at this
theorem nth_rep {k : Nat} (hk : k < many ups lets) : nth (marks ups lets) (rep ups lets k) = k := by
  have m := mem_marks.mpr hk
  have l := List.idxOf_lt_length_of_mem m
  rw [rep, nth_eq l]
  exact List.getElem_idxOf l
theorem nth_lt (h : lets.length = ups.length) {i : Nat} (hi : i < ups.length) : nth (marks ups lets) i < many ups lets := by
  have l : i < (marks ups lets).length := by rw [marks_length h]; exact hi
  rw [← mem_marks, nth_eq l]
  exact List.getElem_mem l
@[simp] theorem shortUps_length : (shortUps ups lets).length = many ups lets := by simp [shortUps]
@[simp] theorem shortLets_length : (shortLets ups lets).length = many ups lets := by simp [shortLets]
theorem shortUps_at {k : Nat} (hk : k < many ups lets) : upAt (shortUps ups lets) k = sset ((upAt ups (rep ups lets k)).map (nth (marks ups lets))) := by
  rw [upAt_eq (by simpa using hk)]
  simp [shortUps]
theorem shortLets_at {k : Nat} (hk : k < many ups lets) : letAt (shortLets ups lets) k = letAt lets (rep ups lets k) := by
  rw [letAt_eq (by simpa using hk)]
  simp [shortLets]
theorem shortUps_mark (h : lets.length = ups.length) {w : Nat} (hw : w < ups.length) : upAt (shortUps ups lets) (nth (marks ups lets) w) = sset ((upAt ups w).map (nth (marks ups lets))) := by
  have k := nth_lt h hw
  rw [shortUps_at k]
  exact marks_see h (rep_lt h k) hw (nth_rep k)
theorem shortLets_mark (h : lets.length = ups.length) {w : Nat} (hw : w < ups.length) : letAt (shortLets ups lets) (nth (marks ups lets) w) = letAt lets w := by
  have k := nth_lt h hw
  rw [shortLets_at k]
  exact letAt_congr (marks_lets h (rep_lt h k) hw (nth_rep k))
theorem nth_zero_num {α : Type} [DecidableEq α] : ∀ xs : List α, nth (num xs) 0 = 0
  | [] => rfl
  | a :: r => by simp [num, nth, once]
theorem marks_zero : nth (marks ups lets) 0 = 0 := by
  rw [← marks_canon]
  exact nth_zero_num _
theorem many_pos (h : lets.length = ups.length) (p : 0 < ups.length) : 0 < many ups lets := Nat.lt_of_le_of_lt (Nat.zero_le _) (nth_lt h p)
theorem many_le (h : lets.length = ups.length) : many ups lets ≤ ups.length := by
  have := cnt_le (marks ups lets)
  rwa [marks_length h] at this
theorem rep_zero (h : lets.length = ups.length) (p : 0 < ups.length) : rep ups lets 0 = 0 := by
  have l : 0 < (marks ups lets).length := by rw [marks_length h]; exact p
  have z := marks_zero (ups := ups) (lets := lets)
  rw [nth_eq l] at z
  unfold rep
  cases e : marks ups lets with
  | nil => rw [e] at l; cases l
  | cons a r =>
    simp only [e, List.getElem_cons_zero] at z
    simp [z]
theorem short_wf (h : WF Nm ups lets) : WF Nm (shortUps ups lets) (shortLets ups lets) := by
  have ll := h.ll
  have key : ∀ {k j}, k < many ups lets → j ∈ upAt (shortUps ups lets) k → ∃ w ∈ upAt ups (rep ups lets k), nth (marks ups lets) w = j := fun hk m => by
    rw [shortUps_at hk, mem_sset] at m
    exact List.mem_map.mp m
  refine ⟨by simpa using many_pos ll h.pos, by simp, ?_, ?_, ?_, ?_, ?_, ?_, ?_, ?_⟩
  · rw [shortUps_at (many_pos ll h.pos), rep_zero ll h.pos, h.root, shortUps_length]
    refine rise_ext (rise_sset _) (rise_range _) fun a => ?_
    rw [mem_sset, List.mem_range, ← mem_marks]
    simp only [List.mem_map, List.mem_range]
    constructor
    · rintro ⟨i, hi, rfl⟩
      exact mem_marks.mpr (nth_lt ll hi)
    · intro m
      have hm := mem_marks.mp m
      exact ⟨rep ups lets a, rep_lt ll hm, nth_rep hm⟩
  · intro u hu
    obtain ⟨k, _, rfl⟩ := List.mem_map.mp hu
    exact rise_sset _
  · intro u hu v hv
    obtain ⟨k, hk, rfl⟩ := List.mem_map.mp hu
    rw [mem_sset] at hv
    obtain ⟨w, hw, rfl⟩ := List.mem_map.mp hv
    rw [shortUps_length]
    exact nth_lt ll (h.ltAt hw)
  · intro k hk
    rw [shortUps_length] at hk
    rw [shortUps_at hk, mem_sset]
    exact List.mem_map.mpr ⟨_, h.refl _ (rep_lt ll hk), nth_rep hk⟩
  · intro i hi j hj k hk
    rw [shortUps_length] at hi
    obtain ⟨w, hw, rfl⟩ := key hi hj
    rw [shortUps_mark ll (h.ltAt hw), mem_sset] at hk
    obtain ⟨v, hv, rfl⟩ := List.mem_map.mp hk
    rw [shortUps_at hi, mem_sset]
    exact List.mem_map.mpr ⟨v, h.trans _ (rep_lt ll hi) _ hw _ hv, rfl⟩
  · intro p hp q hq hq'
    rw [shortUps_length] at hp
    obtain ⟨w0, hw0, hq0⟩ := key hp hq
    have hqm : q < many ups lets := by rw [← hq0]; exact nth_lt ll (h.ltAt hw0)
    refine Classical.byContradiction fun ne => ?_
    have sees : ∀ {a b w : Nat}, w < ups.length → nth (marks ups lets) w = a → b ∈ upAt (shortUps ups lets) a → ∃ v ∈ upAt ups w, nth (marks ups lets) v = b := fun hw e m => by
      rw [← e, shortUps_mark ll hw, mem_sset] at m
      exact List.mem_map.mp m
    have none : ∀ (k w : Nat), w < ups.length → (upAt ups w).length ≤ k → (nth (marks ups lets) w = p ∨ nth (marks ups lets) w = q) → False := by
      intro k
      induction k with
      | zero =>
        intro w hw hl _
        have := List.length_pos_of_mem (h.refl w hw)
        omega
      | succ k ih =>
        intro w hw hl e
        have step : ∀ {a b : Nat}, a ≠ b → nth (marks ups lets) w = a → b ∈ upAt (shortUps ups lets) a → ∃ v, v < ups.length ∧ (upAt ups v).length < (upAt ups w).length ∧ nth (marks ups lets) v = b := by
          intro a b nab ea m
          obtain ⟨v, hv, ev⟩ := sees hw ea m
          have hvl := h.ltAt hv
          refine ⟨v, hvl, ?_, ev⟩
          have nin : w ∉ upAt ups v := fun m' => by
            have := h.anti w hw v hv m'
            subst this
            exact nab (ea.symm.trans ev)
          have nd : (w :: upAt ups v).Nodup := List.nodup_cons.mpr ⟨nin, rise_nodup (h.rise _ (upAt_mem hvl))⟩
          have := nodup_sub_length (ys := upAt ups w) nd fun x hx => by
            rcases List.mem_cons.mp hx with rfl | hx
            · exact h.refl _ hw
            · exact h.trans w hw v hv x hx
          rw [List.length_cons] at this
          exact this
        rcases e with e | e
        · obtain ⟨v, hv, hl', ev⟩ := step ne e hq
          exact ih v hv (by omega) (.inr ev)
        · obtain ⟨v, hv, hl', ev⟩ := step (fun x => ne x.symm) e hq'
          exact ih v hv (by omega) (.inl ev)
    exact none _ _ (rep_lt ll hp) (Nat.le_refl _) (.inl (nth_rep hp))
  · intro l hl
    obtain ⟨k, hk, rfl⟩ := List.mem_map.mp hl
    have hk := List.mem_range.mp hk
    have b : rep ups lets k < lets.length := by rw [ll]; exact rep_lt ll hk
    rw [letAt_eq b]
    exact h.names _ (List.getElem_mem b)
  · intro i hi j hj x hx
    rw [shortUps_length] at hi
    obtain ⟨w, hw, rfl⟩ := key hi hj
    rw [shortLets_at hi] at hx
    rw [shortLets_mark ll (h.ltAt hw)]
    exact h.mono _ (rep_lt ll hi) _ hw x hx
/-- a world and its part -/
theorem bis_short (h : WF Nm ups lets) : Bis ups lets (shortUps ups lets) (shortLets ups lets) fun w k => w < ups.length ∧ k = nth (marks ups lets) w where
  lt := fun r => ⟨r.1, by rw [r.2, shortUps_length]; exact nth_lt h.ll r.1⟩
  lets := fun {i j} r => by
    obtain ⟨hi, rfl⟩ := r
    rw [letAt_some (by rw [h.ll]; exact hi), letAt_some (by rw [shortLets_length]; exact nth_lt h.ll hi), shortLets_mark h.ll hi]
  fw := fun {i j} r v hv => by
    obtain ⟨hi, rfl⟩ := r
    exact ⟨nth (marks ups lets) v, by rw [shortUps_mark h.ll hi, mem_sset]; exact List.mem_map.mpr ⟨v, hv, rfl⟩, h.ltAt hv, rfl⟩
  bw := fun {i j} r v hv => by
    obtain ⟨hi, rfl⟩ := r
    rw [shortUps_mark h.ll hi, mem_sset] at hv
    obtain ⟨w, hw, rfl⟩ := List.mem_map.mp hv
    exact ⟨w, hw, h.ltAt hw, rfl⟩
theorem nth_inj_nodup {xs : List Nat} (h : ∀ i j, i < xs.length → j < xs.length → nth xs i = nth xs j → i = j) : xs.Nodup := by
  rw [List.nodup_iff_pairwise_ne, List.pairwise_iff_getElem]
  intro i j hi hj hij e
  have := h i j hi hj (by rw [nth_eq hi, nth_eq hj]; exact e)
  omega
theorem marks_short (h : WF Nm ups lets) : marks (shortUps ups lets) (shortLets ups lets) = List.range (many ups lets) := by
  have sl : (shortLets ups lets).length = (shortUps ups lets).length := by simp
  have S := bis_marks sl (short_wf h).lt
  have B : Bis ups lets ups lets fun w w' => w < ups.length ∧ w' < ups.length ∧ nth (marks (shortUps ups lets) (shortLets ups lets)) (nth (marks ups lets) w) = nth (marks (shortUps ups lets) (shortLets ups lets)) (nth (marks ups lets) w') := by
    refine ⟨fun r => ⟨r.1, r.2.1⟩, fun {i j} r => ?_, fun {i j} r v hv => ?_, fun {i j} r v hv => ?_⟩
    · have e := S.lets (i := nth (marks ups lets) i) (j := nth (marks ups lets) j) ⟨by simpa using nth_lt h.ll r.1, by simpa using nth_lt h.ll r.2.1, r.2.2⟩
      rw [letAt_some (by rw [h.ll]; exact r.1), letAt_some (by rw [h.ll]; exact r.2.1)]
      have e' := letAt_congr e
      rw [shortLets_mark h.ll r.1, shortLets_mark h.ll r.2.1] at e'
      rw [e']
    · obtain ⟨v', hv', z⟩ := S.fw (i := nth (marks ups lets) i) (j := nth (marks ups lets) j) ⟨by simpa using nth_lt h.ll r.1, by simpa using nth_lt h.ll r.2.1, r.2.2⟩ (nth (marks ups lets) v) (by rw [shortUps_mark h.ll r.1, mem_sset]; exact List.mem_map.mpr ⟨v, hv, rfl⟩)
      rw [shortUps_mark h.ll r.2.1, mem_sset] at hv'
      obtain ⟨w, hw, rfl⟩ := List.mem_map.mp hv'
      exact ⟨w, hw, h.ltAt hv, h.ltAt hw, z.2.2⟩
    · obtain ⟨v', hv', z⟩ := S.bw (i := nth (marks ups lets) i) (j := nth (marks ups lets) j) ⟨by simpa using nth_lt h.ll r.1, by simpa using nth_lt h.ll r.2.1, r.2.2⟩ (nth (marks ups lets) v) (by rw [shortUps_mark h.ll r.2.1, mem_sset]; exact List.mem_map.mpr ⟨v, hv, rfl⟩)
      rw [shortUps_mark h.ll r.1, mem_sset] at hv'
      obtain ⟨w, hw, rfl⟩ := List.mem_map.mp hv'
      exact ⟨w, hw, h.ltAt hw, h.ltAt hv, z.2.2⟩
  have nd : (marks (shortUps ups lets) (shortLets ups lets)).Nodup := by
    apply nth_inj_nodup
    intro i j hi hj e
    rw [marks_length sl, shortUps_length] at hi hj
    have := marks_bis h.ll B (i := rep ups lets i) (j := rep ups lets j) ⟨rep_lt h.ll hi, rep_lt h.ll hj, by rw [nth_rep hi, nth_rep hj]; exact e⟩
    rwa [nth_rep hi, nth_rep hj] at this
  have c := marks_canon (ups := shortUps ups lets) (lets := shortLets ups lets)
  unfold num at c
  rw [once_of_nodup nd, map_idxOf_self nd, marks_length sl, shortUps_length] at c
  exact c.symm
theorem nth_range {n i : Nat} (h : i < n) : nth (List.range n) i = i := by
  rw [nth_eq (by simpa using h)]
  simp
theorem idxOf_range {n i : Nat} (h : i < n) : (List.range n).idxOf i = i := by
  have := idxOf_get (List.nodup_range (n := n)) i (by simpa using h)
  simpa using this
theorem many_short (h : WF Nm ups lets) : many (shortUps ups lets) (shortLets ups lets) = many ups lets := by
  show cnt (marks (shortUps ups lets) (shortLets ups lets)) = _
  rw [marks_short h, cnt, once_of_nodup List.nodup_range, List.length_range]
theorem rep_short (h : WF Nm ups lets) {k : Nat} (hk : k < many ups lets) : rep (shortUps ups lets) (shortLets ups lets) k = k := by
  rw [rep, marks_short h, idxOf_range hk]
theorem short_short_ups (h : WF Nm ups lets) : shortUps (shortUps ups lets) (shortLets ups lets) = shortUps ups lets := by
  apply List.ext_getElem
  · rw [shortUps_length, shortUps_length, many_short h]
  · intro k h1 h2
    rw [shortUps_length] at h2
    have h3 : k < many (shortUps ups lets) (shortLets ups lets) := by rw [many_short h]; exact h2
    rw [← upAt_eq h1, ← upAt_eq (by simpa using h2), shortUps_at h3, rep_short h h2, marks_short h]
    refine rise_ext (rise_sset _) ((short_wf h).rise _ (upAt_mem (by simpa using h2))) fun a => ?_
    rw [mem_sset]
    simp only [List.mem_map]
    constructor
    · rintro ⟨v, hv, rfl⟩
      have := (short_wf h).ltAt hv
      rw [shortUps_length] at this
      rw [nth_range this]
      exact hv
    · intro m
      have := (short_wf h).ltAt m
      rw [shortUps_length] at this
      exact ⟨a, m, nth_range this⟩
theorem short_short_lets (h : WF Nm ups lets) : shortLets (shortUps ups lets) (shortLets ups lets) = shortLets ups lets := by
  apply List.ext_getElem
  · rw [shortLets_length, shortLets_length, many_short h]
  · intro k h1 h2
    rw [shortLets_length] at h2
    have h3 : k < many (shortUps ups lets) (shortLets ups lets) := by rw [many_short h]; exact h2
    rw [← letAt_eq h1, ← letAt_eq (by simpa using h2), shortLets_at h3, rep_short h h2]

/-! ### side by side -/
def besUps (u1 u2 : List (List Nat)) : List (List Nat) := List.range (u1.length + u2.length + 1) :: (u1.map (·.map (· + 1)) ++ u2.map (·.map (· + (u1.length + 1))))
def besLets (l1 l2 : List (List (List Nat))) : List (List (List Nat)) := [] :: (l1 ++ l2)
variable {u1 u2 : List (List Nat)} {l1 l2 : List (List (List Nat))}
@[simp] theorem besUps_length : (besUps u1 u2).length = u1.length + u2.length + 1 := by simp [besUps]
@[simp] theorem besLets_length : (besLets l1 l2).length = l1.length + l2.length + 1 := by simp [besLets]
theorem bes_zero : upAt (besUps u1 u2) 0 = List.range (u1.length + u2.length + 1) := by simp [besUps, upAt]
theorem bes_one {i : Nat} (h : i < u1.length) : upAt (besUps u1 u2) (i + 1) = (upAt u1 i).map (· + 1) := by
  rw [upAt_eq (by simp; omega), upAt_eq h]
  simp only [besUps, List.getElem_cons_succ]
  rw [List.getElem_append_left (by simpa using h), List.getElem_map]
theorem bes_two {j : Nat} (h : j < u2.length) : upAt (besUps u1 u2) (j + (u1.length + 1)) = (upAt u2 j).map (· + (u1.length + 1)) := by
  rw [upAt_eq (by simp; omega), upAt_eq h]
  have e : j + (u1.length + 1) = (u1.length + j) + 1 := by omega
  simp only [besUps, e, List.getElem_cons_succ]
  rw [List.getElem_append_right (by simp)]
  simp [Nat.add_comm]
theorem besL_zero : letAt (besLets l1 l2) 0 = [] := by simp [besLets, letAt]
theorem besL_one {i : Nat} (h : i < l1.length) : letAt (besLets l1 l2) (i + 1) = letAt l1 i := by
  rw [letAt_eq (by simp; omega), letAt_eq h]
  simp only [besLets, List.getElem_cons_succ]
  rw [List.getElem_append_left h]
theorem besL_two {j : Nat} (h : j < l2.length) : letAt (besLets l1 l2) (j + (l1.length + 1)) = letAt l2 j := by
  rw [letAt_eq (by simp; omega), letAt_eq h]
  have e : j + (l1.length + 1) = (l1.length + j) + 1 := by omega
  simp only [besLets, e, List.getElem_cons_succ]
  rw [List.getElem_append_right (by simp)]
  simp
theorem bes_cases {w : Nat} (h : w < u1.length + u2.length + 1) : w = 0 ∨ (∃ i, i < u1.length ∧ w = i + 1) ∨ ∃ j, j < u2.length ∧ w = j + (u1.length + 1) := by
  by_cases z : w = 0
  · exact .inl z
  · by_cases c : w ≤ u1.length
    · exact .inr (.inl ⟨w - 1, by omega, by omega⟩)
    · exact .inr (.inr ⟨w - (u1.length + 1), by omega, by omega⟩)
theorem bes_wf (h1 : WF Nm u1 l1) (h2 : WF Nm u2 l2) (n0 : Nm []) : WF Nm (besUps u1 u2) (besLets l1 l2) := by
  have e1 := h1.ll
  have e2 := h2.ll
  refine ⟨by simp, by simp [e1, e2], by rw [bes_zero]; simp, ?_, ?_, ?_, ?_, ?_, ?_, ?_⟩
  · intro u hu
    simp only [besUps, List.mem_cons, List.mem_append, List.mem_map] at hu
    rcases hu with rfl | ⟨v, hv, rfl⟩ | ⟨v, hv, rfl⟩
    · exact rise_range _
    · exact List.pairwise_map.mpr ((h1.rise v hv).imp fun h => by omega)
    · exact List.pairwise_map.mpr ((h2.rise v hv).imp fun h => by omega)
  · intro u hu x hx
    rw [besUps_length]
    simp only [besUps, List.mem_cons, List.mem_append, List.mem_map] at hu
    rcases hu with rfl | ⟨v, hv, rfl⟩ | ⟨v, hv, rfl⟩
    · exact List.mem_range.mp hx
    · obtain ⟨y, hy, rfl⟩ := List.mem_map.mp hx
      have := h1.lt v hv y hy
      omega
    · obtain ⟨y, hy, rfl⟩ := List.mem_map.mp hx
      have := h2.lt v hv y hy
      omega
  · intro i hi
    rw [besUps_length] at hi
    rcases bes_cases hi with rfl | ⟨k, hk, rfl⟩ | ⟨k, hk, rfl⟩
    · rw [bes_zero]; exact List.mem_range.mpr hi
    · rw [bes_one hk]; exact List.mem_map.mpr ⟨k, h1.refl k hk, rfl⟩
    · rw [bes_two hk]; exact List.mem_map.mpr ⟨k, h2.refl k hk, rfl⟩
  · intro i hi j hj k hk
    rw [besUps_length] at hi
    rcases bes_cases hi with rfl | ⟨a, ha, rfl⟩ | ⟨a, ha, rfl⟩
    · rw [bes_zero]
      rw [bes_zero] at hj
      have hj' := List.mem_range.mp hj
      refine List.mem_range.mpr ?_
      rcases bes_cases hj' with rfl | ⟨b, hb, rfl⟩ | ⟨b, hb, rfl⟩
      · rw [bes_zero] at hk; exact List.mem_range.mp hk
      · rw [bes_one hb] at hk
        obtain ⟨y, hy, rfl⟩ := List.mem_map.mp hk
        have := h1.ltAt hy
        omega
      · rw [bes_two hb] at hk
        obtain ⟨y, hy, rfl⟩ := List.mem_map.mp hk
        have := h2.ltAt hy
        omega
    · rw [bes_one ha] at hj ⊢
      obtain ⟨b, hb, rfl⟩ := List.mem_map.mp hj
      rw [bes_one (h1.ltAt hb)] at hk
      obtain ⟨c, hc, rfl⟩ := List.mem_map.mp hk
      exact List.mem_map.mpr ⟨c, h1.trans a ha b hb c hc, rfl⟩
    · rw [bes_two ha] at hj ⊢
      obtain ⟨b, hb, rfl⟩ := List.mem_map.mp hj
      rw [bes_two (h2.ltAt hb)] at hk
      obtain ⟨c, hc, rfl⟩ := List.mem_map.mp hk
      exact List.mem_map.mpr ⟨c, h2.trans a ha b hb c hc, rfl⟩
  · intro i hi j hj hj'
    rw [besUps_length] at hi
    rcases bes_cases hi with rfl | ⟨a, ha, rfl⟩ | ⟨a, ha, rfl⟩
    · rw [bes_zero] at hj
      rcases bes_cases (List.mem_range.mp hj) with rfl | ⟨b, hb, rfl⟩ | ⟨b, hb, rfl⟩
      · rfl
      · rw [bes_one hb] at hj'
        obtain ⟨y, hy, e⟩ := List.mem_map.mp hj'
        omega
      · rw [bes_two hb] at hj'
        obtain ⟨y, hy, e⟩ := List.mem_map.mp hj'
        omega
    · rw [bes_one ha] at hj
      obtain ⟨b, hb, rfl⟩ := List.mem_map.mp hj
      rw [bes_one (h1.ltAt hb)] at hj'
      obtain ⟨c, hc, e⟩ := List.mem_map.mp hj'
      have e' : c = a := by omega
      subst e'
      rw [h1.anti c ha b hb hc]
    · rw [bes_two ha] at hj
      obtain ⟨b, hb, rfl⟩ := List.mem_map.mp hj
      rw [bes_two (h2.ltAt hb)] at hj'
      obtain ⟨c, hc, e⟩ := List.mem_map.mp hj'
      have e' : c = a := by omega
      subst e'
      rw [h2.anti c ha b hb hc]
  · intro l hl
    simp only [besLets, List.mem_cons, List.mem_append] at hl
    rcases hl with rfl | hl | hl
    · exact n0
    · exact h1.names l hl
    · exact h2.names l hl
  · intro i hi j hj x hx
    rw [besUps_length] at hi
    rcases bes_cases hi with rfl | ⟨a, ha, rfl⟩ | ⟨a, ha, rfl⟩
    · rw [besL_zero] at hx; cases hx
    · rw [bes_one ha] at hj
      obtain ⟨b, hb, rfl⟩ := List.mem_map.mp hj
      rw [besL_one (by rw [e1]; exact ha)] at hx
      rw [besL_one (by rw [e1]; exact h1.ltAt hb)]
      exact h1.mono a ha b hb x hx
    · rw [bes_two ha] at hj
      obtain ⟨b, hb, rfl⟩ := List.mem_map.mp hj
      rw [← e1, besL_two (by rw [e2]; exact ha)] at hx
      rw [← e1, besL_two (by rw [e2]; exact h2.ltAt hb)]
      exact h2.mono a ha b hb x hx
/-- a relation between two, side by side -/
theorem bis_beside (h1 : WF Nm u1 l1) (h2 : WF Nm u2 l2) {R : Nat → Nat → Prop} (B : Bis u1 l1 u2 l2 R) : Bis (besUps u1 u2) (besLets l1 l2) (besUps u1 u2) (besLets l1 l2) fun x y => ∃ i j, R i j ∧ x = i + 1 ∧ y = j + (u1.length + 1) where
  lt := fun ⟨i, j, r, e1, e2⟩ => by
    have := B.lt r
    rw [besUps_length]
    omega
  lets := fun {x y} ⟨i, j, r, e1, e2⟩ => by
    have l := B.lt r
    have := letAt_congr (B.lets r)
    subst e1 e2
    have q1 := h1.ll
    have q2 := h2.ll
    rw [letAt_some (by simp; omega), letAt_some (by simp; omega), besL_one (by omega), ← q1, besL_two (by omega), this]
  fw := fun {x y} ⟨i, j, r, e1, e2⟩ v hv => by
    have l := B.lt r
    subst e1 e2
    rw [bes_one l.1] at hv
    obtain ⟨w, hw, rfl⟩ := List.mem_map.mp hv
    obtain ⟨w', hw', r'⟩ := B.fw r w hw
    exact ⟨w' + (u1.length + 1), by rw [bes_two l.2]; exact List.mem_map.mpr ⟨w', hw', rfl⟩, w, w', r', rfl, rfl⟩
  bw := fun {x y} ⟨i, j, r, e1, e2⟩ v hv => by
    have l := B.lt r
    subst e1 e2
    rw [bes_two l.2] at hv
    obtain ⟨w, hw, rfl⟩ := List.mem_map.mp hv
    obtain ⟨w', hw', r'⟩ := B.bw r w hw
    exact ⟨w' + 1, by rw [bes_one l.1]; exact List.mem_map.mpr ⟨w', hw', rfl⟩, w', w, r', rfl, rfl⟩
/-- a relation within the first, side by side -/
theorem bis_left (h1 : WF Nm u1 l1) {R : Nat → Nat → Prop} (B : Bis u1 l1 u1 l1 R) : Bis (besUps u1 u2) (besLets l1 l2) (besUps u1 u2) (besLets l1 l2) fun x y => ∃ i j, R i j ∧ x = i + 1 ∧ y = j + 1 where
  lt := fun ⟨i, j, r, e1, e2⟩ => by
    have := B.lt r
    rw [besUps_length]
    omega
  lets := fun {x y} ⟨i, j, r, e1, e2⟩ => by
    have l := B.lt r
    have := letAt_congr (B.lets r)
    subst e1 e2
    have q1 := h1.ll
    rw [letAt_some (by simp; omega), letAt_some (by simp; omega), besL_one (by omega), besL_one (by omega), this]
  fw := fun {x y} ⟨i, j, r, e1, e2⟩ v hv => by
    have l := B.lt r
    subst e1 e2
    rw [bes_one l.1] at hv
    obtain ⟨w, hw, rfl⟩ := List.mem_map.mp hv
    obtain ⟨w', hw', r'⟩ := B.fw r w hw
    exact ⟨w' + 1, by rw [bes_one l.2]; exact List.mem_map.mpr ⟨w', hw', rfl⟩, w, w', r', rfl, rfl⟩
  bw := fun {x y} ⟨i, j, r, e1, e2⟩ v hv => by
    have l := B.lt r
    subst e1 e2
    rw [bes_one l.2] at hv
    obtain ⟨w, hw, rfl⟩ := List.mem_map.mp hv
    obtain ⟨w', hw', r'⟩ := B.bw r w hw
    exact ⟨w' + 1, by rw [bes_one l.1]; exact List.mem_map.mpr ⟨w', hw', rfl⟩, w', w, r', rfl, rfl⟩
theorem bis_right (h1 : WF Nm u1 l1) (h2 : WF Nm u2 l2) {R : Nat → Nat → Prop} (B : Bis u2 l2 u2 l2 R) : Bis (besUps u1 u2) (besLets l1 l2) (besUps u1 u2) (besLets l1 l2) fun x y => ∃ i j, R i j ∧ x = i + (u1.length + 1) ∧ y = j + (u1.length + 1) where
  lt := fun ⟨i, j, r, e1, e2⟩ => by
    have := B.lt r
    rw [besUps_length]
    omega
  lets := fun {x y} ⟨i, j, r, e1, e2⟩ => by
    have l := B.lt r
    have := letAt_congr (B.lets r)
    subst e1 e2
    have q1 := h1.ll
    have q2 := h2.ll
    rw [letAt_some (by simp; omega), letAt_some (by simp; omega), ← q1, besL_two (by omega), besL_two (by omega), this]
  fw := fun {x y} ⟨i, j, r, e1, e2⟩ v hv => by
    have l := B.lt r
    subst e1 e2
    rw [bes_two l.1] at hv
    obtain ⟨w, hw, rfl⟩ := List.mem_map.mp hv
    obtain ⟨w', hw', r'⟩ := B.fw r w hw
    exact ⟨w' + (u1.length + 1), by rw [bes_two l.2]; exact List.mem_map.mpr ⟨w', hw', rfl⟩, w, w', r', rfl, rfl⟩
  bw := fun {x y} ⟨i, j, r, e1, e2⟩ v hv => by
    have l := B.lt r
    subst e1 e2
    rw [bes_two l.2] at hv
    obtain ⟨w, hw, rfl⟩ := List.mem_map.mp hv
    obtain ⟨w', hw', r'⟩ := B.bw r w hw
    exact ⟨w' + (u1.length + 1), by rw [bes_two l.1]; exact List.mem_map.mpr ⟨w', hw', rfl⟩, w', w, r', rfl, rfl⟩
theorem bes_ll (h1 : WF Nm u1 l1) (h2 : WF Nm u2 l2) : (besLets l1 l2).length = (besUps u1 u2).length := by simp [h1.ll, h2.ll]
/-- what a relation between the roots tells -/
theorem alike_of_bis (h1 : WF Nm u1 l1) (h2 : WF Nm u2 l2) {R : Nat → Nat → Prop} (B : Bis u1 l1 u2 l2 R) {i j : Nat} (r : R i j) :
    nth (marks (besUps u1 u2) (besLets l1 l2)) (i + 1) = nth (marks (besUps u1 u2) (besLets l1 l2)) (j + (u1.length + 1)) :=
  marks_bis (bes_ll h1 h2) (bis_beside h1 h2 B) ⟨i, j, r, rfl, rfl⟩
theorem alike_short (h : WF Nm ups lets) : nth (marks (besUps ups (shortUps ups lets)) (besLets lets (shortLets ups lets))) 1 = nth (marks (besUps ups (shortUps ups lets)) (besLets lets (shortLets ups lets))) (ups.length + 1) := by
  have := alike_of_bis h (short_wf h) (bis_short h) (i := 0) (j := 0) ⟨h.pos, marks_zero.symm⟩
  simpa using this
/-- within one: alike side by side just where alike -/
theorem left_marks (h1 : WF Nm u1 l1) (h2 : WF Nm u2 l2) (n0 : Nm []) {i j : Nat} (hi : i < u1.length) (hj : j < u1.length) :
    nth (marks (besUps u1 u2) (besLets l1 l2)) (i + 1) = nth (marks (besUps u1 u2) (besLets l1 l2)) (j + 1) ↔ nth (marks u1 l1) i = nth (marks u1 l1) j := by
  have S := bis_marks (bes_ll h1 h2) (bes_wf h1 h2 n0).lt
  constructor
  · intro e
    refine marks_bis (R := fun i j => i < u1.length ∧ j < u1.length ∧ nth (marks (besUps u1 u2) (besLets l1 l2)) (i + 1) = nth (marks (besUps u1 u2) (besLets l1 l2)) (j + 1)) h1.ll ⟨fun r => ⟨r.1, r.2.1⟩, fun {a b} r => ?_, fun {a b} r v hv => ?_, fun {a b} r v hv => ?_⟩ ⟨hi, hj, e⟩
    · have := letAt_congr (S.lets (i := a + 1) (j := b + 1) ⟨by simp; omega, by simp; omega, r.2.2⟩)
      have q := h1.ll
      rw [besL_one (by omega), besL_one (by omega)] at this
      rw [letAt_some (by omega), letAt_some (by omega), this]
    · obtain ⟨v', hv', z⟩ := S.fw (i := a + 1) (j := b + 1) ⟨by simp; omega, by simp; omega, r.2.2⟩ (v + 1) (by rw [bes_one r.1]; exact List.mem_map.mpr ⟨v, hv, rfl⟩)
      rw [bes_one r.2.1] at hv'
      obtain ⟨w, hw, rfl⟩ := List.mem_map.mp hv'
      exact ⟨w, hw, h1.ltAt hv, h1.ltAt hw, z.2.2⟩
    · obtain ⟨v', hv', z⟩ := S.bw (i := a + 1) (j := b + 1) ⟨by simp; omega, by simp; omega, r.2.2⟩ (v + 1) (by rw [bes_one r.2.1]; exact List.mem_map.mpr ⟨v, hv, rfl⟩)
      rw [bes_one r.1] at hv'
      obtain ⟨w, hw, rfl⟩ := List.mem_map.mp hv'
      exact ⟨w, hw, h1.ltAt hw, h1.ltAt hv, z.2.2⟩
  · intro e
    exact marks_bis (bes_ll h1 h2) (bis_left (u2 := u2) (l2 := l2) h1 (bis_marks h1.ll h1.lt)) ⟨i, j, ⟨hi, hj, e⟩, rfl, rfl⟩
theorem right_marks (h1 : WF Nm u1 l1) (h2 : WF Nm u2 l2) (n0 : Nm []) {i j : Nat} (hi : i < u2.length) (hj : j < u2.length) :
    nth (marks (besUps u1 u2) (besLets l1 l2)) (i + (u1.length + 1)) = nth (marks (besUps u1 u2) (besLets l1 l2)) (j + (u1.length + 1)) ↔ nth (marks u2 l2) i = nth (marks u2 l2) j := by
  have S := bis_marks (bes_ll h1 h2) (bes_wf h1 h2 n0).lt
  constructor
  · intro e
    refine marks_bis (R := fun i j => i < u2.length ∧ j < u2.length ∧ nth (marks (besUps u1 u2) (besLets l1 l2)) (i + (u1.length + 1)) = nth (marks (besUps u1 u2) (besLets l1 l2)) (j + (u1.length + 1))) h2.ll ⟨fun r => ⟨r.1, r.2.1⟩, fun {a b} r => ?_, fun {a b} r v hv => ?_, fun {a b} r v hv => ?_⟩ ⟨hi, hj, e⟩
    · have := letAt_congr (S.lets (i := a + (u1.length + 1)) (j := b + (u1.length + 1)) ⟨by simp; omega, by simp; omega, r.2.2⟩)
      have q := h1.ll
      have q2 := h2.ll
      rw [← q, besL_two (by omega), besL_two (by omega)] at this
      rw [letAt_some (by omega), letAt_some (by omega), this]
    · obtain ⟨v', hv', z⟩ := S.fw (i := a + (u1.length + 1)) (j := b + (u1.length + 1)) ⟨by simp; omega, by simp; omega, r.2.2⟩ (v + (u1.length + 1)) (by rw [bes_two r.1]; exact List.mem_map.mpr ⟨v, hv, rfl⟩)
      rw [bes_two r.2.1] at hv'
      obtain ⟨w, hw, rfl⟩ := List.mem_map.mp hv'
      exact ⟨w, hw, h2.ltAt hv, h2.ltAt hw, z.2.2⟩
    · obtain ⟨v', hv', z⟩ := S.bw (i := a + (u1.length + 1)) (j := b + (u1.length + 1)) ⟨by simp; omega, by simp; omega, r.2.2⟩ (v + (u1.length + 1)) (by rw [bes_two r.2.1]; exact List.mem_map.mpr ⟨v, hv, rfl⟩)
      rw [bes_two r.1] at hv'
      obtain ⟨w, hw, rfl⟩ := List.mem_map.mp hv'
      exact ⟨w, hw, h2.ltAt hw, h2.ltAt hv, z.2.2⟩
  · intro e
    exact marks_bis (bes_ll h1 h2) (bis_right h1 h2 (bis_marks h2.ll h2.lt)) ⟨i, j, ⟨hi, hj, e⟩, rfl, rfl⟩
/-- alike roots: equally many parts -/
theorem many_eq (h1 : WF Nm u1 l1) (h2 : WF Nm u2 l2) (n0 : Nm []) (e : nth (marks (besUps u1 u2) (besLets l1 l2)) 1 = nth (marks (besUps u1 u2) (besLets l1 l2)) (u1.length + 1)) : many u1 l1 = many u2 l2 := by
  have S := bis_marks (bes_ll h1 h2) (bes_wf h1 h2 n0).lt
  have c1 : many u1 l1 = cnt ((List.range u1.length).map fun i => nth (marks (besUps u1 u2) (besLets l1 l2)) (i + 1)) := by
    have k : num (marks u1 l1) = num ((List.range u1.length).map fun i => nth (marks (besUps u1 u2) (besLets l1 l2)) (i + 1)) := by
      refine num_kernel (by simp [marks_length h1.ll]) fun i j hi hj => ?_
      rw [marks_length h1.ll] at hi hj
      have := left_marks h1 h2 n0 hi hj
      rw [← nth_eq (by rw [marks_length h1.ll]; exact hi), ← nth_eq (by rw [marks_length h1.ll]; exact hj), ← this]
      simp
    rw [many, ← cnt_num, k, cnt_num]
  have c2 : many u2 l2 = cnt ((List.range u2.length).map fun i => nth (marks (besUps u1 u2) (besLets l1 l2)) (i + (u1.length + 1))) := by
    have k : num (marks u2 l2) = num ((List.range u2.length).map fun i => nth (marks (besUps u1 u2) (besLets l1 l2)) (i + (u1.length + 1))) := by
      refine num_kernel (by simp [marks_length h2.ll]) fun i j hi hj => ?_
      rw [marks_length h2.ll] at hi hj
      have := right_marks h1 h2 n0 hi hj
      rw [← nth_eq (by rw [marks_length h2.ll]; exact hi), ← nth_eq (by rw [marks_length h2.ll]; exact hj), ← this]
      simp
    rw [many, ← cnt_num, k, cnt_num]
  rw [c1, c2]
  have p1 := h1.pos
  have p2 := h2.pos
  have R0 : 0 + 1 < (besUps u1 u2).length ∧ 0 + (u1.length + 1) < (besUps u1 u2).length ∧ nth (marks (besUps u1 u2) (besLets l1 l2)) (0 + 1) = nth (marks (besUps u1 u2) (besLets l1 l2)) (0 + (u1.length + 1)) := ⟨by simp; omega, by simp; omega, by simpa using e⟩
  refine cnt_congr fun a => ?_
  simp only [List.mem_map, List.mem_range]
  constructor
  · rintro ⟨i, hi, rfl⟩
    obtain ⟨v', hv', z⟩ := S.fw R0 (i + 1) (by rw [bes_one p1, h1.root]; exact List.mem_map.mpr ⟨i, List.mem_range.mpr hi, rfl⟩)
    rw [bes_two p2, h2.root] at hv'
    obtain ⟨w, hw, rfl⟩ := List.mem_map.mp hv'
    exact ⟨w, List.mem_range.mp hw, z.2.2.symm⟩
  · rintro ⟨i, hi, rfl⟩
    obtain ⟨v', hv', z⟩ := S.bw R0 (i + (u1.length + 1)) (by rw [bes_two p2, h2.root]; exact List.mem_map.mpr ⟨i, List.mem_range.mpr hi, rfl⟩)
    rw [bes_one p1, h1.root] at hv'
    obtain ⟨w, hw, rfl⟩ := List.mem_map.mp hv'
    exact ⟨w, List.mem_range.mp hw, z.2.2⟩

/-! ### formulas -/
inductive Fm where
  | is (s : List Nat) | no | and (f g : Fm) | or (f g : Fm) | thn (f g : Fm)
  deriving DecidableEq
/-- where a formula stands -/
def tv (ups : List (List Nat)) (lets : List (List (List Nat))) : Fm → List Bool
  | .is s => lets.map fun l => decide (s ∈ l)
  | .no => ups.map fun _ => false
  | .and f g => (List.range ups.length).map fun w => (tv ups lets f).getD w false && (tv ups lets g).getD w false
  | .or f g => (List.range ups.length).map fun w => (tv ups lets f).getD w false || (tv ups lets g).getD w false
  | .thn f g => ups.map fun u => u.all fun o => !((tv ups lets f).getD o false) || (tv ups lets g).getD o false
abbrev tvAt (ups : List (List Nat)) (lets : List (List (List Nat))) (f : Fm) (w : Nat) : Bool := (tv ups lets f).getD w false
theorem tv_length (h : lets.length = ups.length) : ∀ f, (tv ups lets f).length = ups.length
  | .is s => by simp [tv, h]
  | .no => by simp [tv]
  | .and f g => by simp [tv]
  | .or f g => by simp [tv]
  | .thn f g => by simp [tv]
theorem tvAt_is (h : lets.length = ups.length) {w : Nat} (hw : w < ups.length) {s : List Nat} : tvAt ups lets (.is s) w = decide (s ∈ letAt lets w) := by
  rw [letAt_eq (by rw [h]; exact hw)]
  simp [tvAt, tv, List.getD_eq_getElem?_getD, h, hw]
theorem tvAt_no {w : Nat} : tvAt ups lets .no w = false := by
  simp only [tvAt, tv, List.getD_eq_getElem?_getD, List.getElem?_map]
  cases ups[w]? <;> rfl
theorem tvAt_and {w : Nat} (hw : w < ups.length) {f g : Fm} : tvAt ups lets (.and f g) w = (tvAt ups lets f w && tvAt ups lets g w) := by
  simp [tvAt, tv, List.getD_eq_getElem?_getD, hw]
theorem tvAt_or {w : Nat} (hw : w < ups.length) {f g : Fm} : tvAt ups lets (.or f g) w = (tvAt ups lets f w || tvAt ups lets g w) := by
  simp [tvAt, tv, List.getD_eq_getElem?_getD, hw]
theorem tvAt_thn {w : Nat} (hw : w < ups.length) {f g : Fm} : tvAt ups lets (.thn f g) w = (upAt ups w).all fun o => !(tvAt ups lets f o) || tvAt ups lets g o := by
  rw [upAt_eq hw]
  simp [tvAt, tv, List.getD_eq_getElem?_getD, hw]
theorem tv_bis {ups' : List (List Nat)} {lets' : List (List (List Nat))} (h : lets.length = ups.length) (h' : lets'.length = ups'.length) {R : Nat → Nat → Prop} (B : Bis ups lets ups' lets' R) : ∀ (f : Fm) {i j : Nat}, R i j → tvAt ups lets f i = tvAt ups' lets' f j
  | .is s, i, j, r => by rw [tvAt_is h (B.lt r).1, tvAt_is h' (B.lt r).2, letAt_congr (B.lets r)]
  | .no, i, j, r => by rw [tvAt_no, tvAt_no]
  | .and f g, i, j, r => by rw [tvAt_and (B.lt r).1, tvAt_and (B.lt r).2, tv_bis h h' B f r, tv_bis h h' B g r]
  | .or f g, i, j, r => by rw [tvAt_or (B.lt r).1, tvAt_or (B.lt r).2, tv_bis h h' B f r, tv_bis h h' B g r]
  | .thn f g, i, j, r => by
    rw [tvAt_thn (B.lt r).1, tvAt_thn (B.lt r).2, Bool.eq_iff_iff, List.all_eq_true, List.all_eq_true]
    constructor
    · intro a v' hv'
      obtain ⟨v, hv, r'⟩ := B.bw r v' hv'
      rw [← tv_bis h h' B f r', ← tv_bis h h' B g r']
      exact a v hv
    · intro a v hv
      obtain ⟨v', hv', r'⟩ := B.fw r v hv
      rw [tv_bis h h' B f r', tv_bis h h' B g r']
      exact a v' hv'
theorem tv_short (h : WF Nm ups lets) (f : Fm) : tv (shortUps ups lets) (shortLets ups lets) f = (List.range (many ups lets)).map fun k => tvAt ups lets f (rep ups lets k) := by
  apply List.ext_getElem
  · rw [tv_length (by simp), shortUps_length]; simp
  · intro k h1 h2
    have hk : k < many ups lets := by simpa using h2
    have e := tv_bis h.ll (by simp) (bis_short h) f (i := rep ups lets k) (j := k) ⟨rep_lt h.ll hk, (nth_rep hk).symm⟩
    simp only [List.getElem_map, List.getElem_range]
    rw [e]
    simp [tvAt, List.getD_eq_getElem?_getD, h1]
theorem tv_part (h : WF Nm ups lets) (f : Fm) {i j : Nat} (hi : i < ups.length) (hj : j < ups.length) (e : nth (marks ups lets) i = nth (marks ups lets) j) : tvAt ups lets f i = tvAt ups lets f j :=
  tv_bis h.ll h.ll (bis_marks h.ll h.lt) f ⟨hi, hj, e⟩
end Fx.Om
end

section
set_option Elab.async false
set_option linter.all false
set_option maxRecDepth 100000
/-! Om4: repr of small trees. -/
namespace Fx.Om
open PySem PySem.Spec PyProof.Rows L2

def dec (m : Nat) : List Nat := (Nat.toDigits 10 m).map Char.toNat
theorem shown_nat (m : Nat) : (PyData.shown (.int (m : Int))).cps.toList = dec m := by
  simp only [PyData.shown]
  exact PySem.W.KIN.signs_num m
def isDig (c : Nat) : Bool := decide (48 ≤ c) && decide (c ≤ 57)
theorem dec_facts : ∀ m, m < 64 → (dec m).length ≤ 2 ∧ dec m ≠ [] ∧ (dec m).all isDig = true := by decide +kernel
theorem dec_inj64 : ∀ m, m < 64 → ∀ k, k < 64 → dec m = dec k → m = k := by decide +kernel
def jf : Nat → List (List Nat) → List Nat
  | _, [] => []
  | k, t :: ts => (if k > 0 then [44, 32] else []) ++ t ++ jf (k + 1) ts
theorem textFrom_list : ∀ (ts : List Str) (k : Nat) (acc : Str), (textFrom k acc ts).cps.toList = acc.cps.toList ++ jf k (ts.map fun t => t.cps.toList)
  | [], k, acc => by simp [textFrom, jf]
  | t :: ts, k, acc => by
    rw [textFrom, textFrom_list ts]
    simp only [Str.cps_append, Array.toList_append, List.map_cons, jf]
    have e : ((((if k > 0 then ", " else "" : String)) : Str)).cps.toList = if k > 0 then [44, 32] else [] := by
      by_cases h : k > 0
      · rw [if_pos h, if_pos h]; decide +kernel
      · rw [if_neg h, if_neg h]; decide +kernel
    rw [e]
    simp only [List.append_assoc]
theorem listText_list (ts : List Str) : (listText ts).cps.toList = 91 :: (jf 0 (ts.map fun t => t.cps.toList) ++ [93]) := by
  rw [listText, Str.cps_append, Array.toList_append, textFrom_list]
  have e1 : ((("[" : String) : Str)).cps.toList = [91] := by decide +kernel
  have e2 : ((("]" : String) : Str)).cps.toList = [93] := by decide +kernel
  rw [e1, e2]
  rfl
theorem join_list : ∀ ts : List Str, (Str.join ((", " : String) : Str) ts).cps.toList = jf 0 (ts.map fun t => t.cps.toList)
  | [] => rfl
  | [x] => by simp [Str.join, jf]
  | x :: y :: r => by
    have e : ((((", " : String)) : Str)).cps.toList = [44, 32] := by decide +kernel
    have jk : ∀ (k : Nat) (l : List (List Nat)), l ≠ [] → jf (k + 1) l = [44, 32] ++ jf 0 l := by
      intro k l hl
      cases l with
      | nil => exact absurd rfl hl
      | cons a l =>
        have jj : ∀ (l : List (List Nat)) (i j : Nat), jf (i + 1) l = jf (j + 1) l := by
          intro l
          induction l with
          | nil => intros; rfl
          | cons b l ih =>
            intro i j
            simp only [jf]
            rw [if_pos (Nat.succ_pos _), if_pos (Nat.succ_pos _), ih (i + 1) (j + 1)]
        simp only [jf]
        rw [if_pos (Nat.succ_pos _), if_neg (Nat.lt_irrefl _), jj l (k + 1) 0]
        simp
    have jc : ∀ (a : List Nat) (l : List (List Nat)), jf 0 (a :: l) = a ++ jf 1 l := fun a l => by simp [jf]
    have m : (x :: y :: r).map (fun t : Str => t.cps.toList) = x.cps.toList :: (y :: r).map (fun t : Str => t.cps.toList) := rfl
    rw [m, jc, jk 0 _ (by simp), ← join_list (y :: r)]
    · rw [Str.join, Str.cps_append, Str.cps_append, Array.toList_append, Array.toList_append, e]
      · simp
      · simp
theorem tupleText_list (ts : List Str) : (tupleText ts).cps.toList = 40 :: (jf 0 (ts.map fun t => t.cps.toList) ++ if ts.length = 1 then [44, 41] else [41]) := by
  rw [tupleText, Str.cps_append, Str.cps_append, Array.toList_append, Array.toList_append, join_list]
  have e1 : ((("(" : String) : Str)).cps.toList = [40] := by decide +kernel
  rw [e1]
  by_cases h : ts.length = 1
  · rw [if_pos h, if_pos (by simp [h])]
    have e2 : (((",)" : String) : Str)).cps.toList = [44, 41] := by decide +kernel
    rw [e2]
    rfl
  · rw [if_neg h, if_neg (by simpa using h)]
    have e2 : (((")" : String) : Str)).cps.toList = [41] := by decide +kernel
    rw [e2]
    rfl

/-! ### small trees -/
def isLow (c : Nat) : Bool := (decide (97 ≤ c) && decide (c ≤ 122)) || isDig c
mutual
def sm : T → Bool
  | .non => true
  | .bl _ => true
  | .int i => decide (0 ≤ i) && decide (i < 64)
  | .str s => s.all isLow
  | .tup ts => sms ts
  | .lst ts => sms ts
  | _ => false
def sms : List T → Bool
  | [] => true
  | x :: xs => sm x && sms xs
end
mutual
def wt : T → Nat
  | .int _ => 2
  | .str s => s.length + 2
  | .tup ts => wts ts + 3
  | .lst ts => wts ts + 3
  | _ => 5
def wts : List T → Nat
  | [] => 0
  | x :: xs => wt x + 2 + wts xs
end
theorem repr_low : ∀ c, c < 128 → isLow c = true → Builtin.Str.reprChar 39 c = [c] := by decide +kernel
theorem reprText_low {s : List Nat} (h : s.all isLow = true) : (reprText ⟨s.toArray⟩).cps.toList = 39 :: (s ++ [39]) := by
  have q : reprQuote ⟨s.toArray⟩ = 39 := by
    unfold reprQuote
    have : (s.toArray.contains 39) = false := by
      rw [Bool.eq_false_iff]
      intro c
      have m : 39 ∈ s := by simpa using c
      have := List.all_eq_true.mp h 39 m
      revert this
      decide
    rw [this]
    rfl
  have f : ∀ (l : List Nat) (acc : Array Nat), l.all isLow = true → (l.foldl (fun out c => out ++ (Builtin.Str.reprChar 39 c).toArray) acc).toList = acc.toList ++ l := by
    intro l
    induction l with
    | nil => intro acc _; simp
    | cons c l ih =>
      intro acc hl
      rw [List.all_cons, Bool.and_eq_true] at hl
      have hc : c < 128 := by
        have := hl.1
        simp only [isLow, isDig, Bool.or_eq_true, Bool.and_eq_true, decide_eq_true_eq] at this
        omega
      rw [List.foldl_cons, ih _ hl.2, repr_low c hc hl.1]
      simp
  unfold reprText
  rw [q]
  rw [Array.toList_push, ← Array.foldl_toList, f _ _ h]
  rfl
theorem jf_all {p : Nat → Bool} (h1 : p 44 = true) (h2 : p 32 = true) : ∀ (ts : List (List Nat)) (k : Nat), (∀ t ∈ ts, ∀ c ∈ t, p c = true) → ∀ c ∈ jf k ts, p c = true
  | [], _, _, c, hc => by simp [jf] at hc
  | t :: ts, k, h, c, hc => by
    simp only [jf, List.mem_append] at hc
    rcases hc with (hc | hc) | hc
    · split at hc
      · simp only [List.mem_cons, List.not_mem_nil, or_false] at hc
        rcases hc with rfl | rfl
        · exact h1
        · exact h2
      · cases hc
    · exact h t List.mem_cons_self c hc
    · exact jf_all h1 h2 ts (k + 1) (fun t ht => h t (List.mem_cons_of_mem _ ht)) c hc
theorem jf_len : ∀ (ts : List (List Nat)) (k : Nat), (jf k ts).length ≤ (ts.map fun t => t.length + 2).sum
  | [], _ => by simp [jf]
  | t :: ts, k => by
    have := jf_len ts (k + 1)
    simp only [jf, List.length_append, List.map_cons, List.sum_cons]
    split <;> simp <;> omega
abbrev rp (t : T) : List Nat := t.dat.shown.cps.toList
mutual
theorem sm_ok : ∀ t : T, sm t = true → t.dat.showable = true ∧ (∀ c ∈ rp t, decide (c < 128) = true) ∧ (rp t).length ≤ wt t
  | .non, _ => by decide +kernel
  | .bl true, _ => by decide +kernel
  | .bl false, _ => by decide +kernel
  | .int i, h => by
    simp only [sm, Bool.and_eq_true, decide_eq_true_eq] at h
    obtain ⟨m, rfl⟩ := Int.eq_ofNat_of_zero_le h.1
    have hm : m < 64 := by omega
    obtain ⟨h1, _, h3⟩ := dec_facts m hm
    refine ⟨?_, ?_, ?_⟩
    · simp only [T.dat, PyData.showable, decide_eq_true_eq]
      have : Nat.log2 m < 1920 := Nat.lt_of_le_of_lt (Nat.log2_le_self m) (by omega)
      simpa using this
    · intro c hc
      rw [rp, T.dat, shown_nat] at hc
      have := List.all_eq_true.mp h3 c hc
      simp only [isDig, Bool.and_eq_true, decide_eq_true_eq] at this
      exact decide_eq_true (by omega)
    · rw [rp, T.dat, shown_nat]
      exact h1
  | .str s, h => by
    simp only [sm] at h
    have e : rp (.str s) = 39 :: (s ++ [39]) := by
      simp only [rp, T.dat, PyData.shown]
      exact reprText_low h
    refine ⟨by simp [T.dat, PyData.showable], ?_, ?_⟩
    · intro c hc
      rw [e] at hc
      simp only [List.mem_cons, List.mem_append, List.not_mem_nil, or_false] at hc
      rcases hc with rfl | hc | rfl
      · decide
      · have := List.all_eq_true.mp h c hc
        simp only [isLow, isDig, Bool.or_eq_true, Bool.and_eq_true, decide_eq_true_eq] at this
        exact decide_eq_true (by omega)
      · decide
    · rw [e]
      simp [wt]
  | .lst ts, h => by
    simp only [sm] at h
    obtain ⟨h1, h2, h3⟩ := sms_ok ts h
    have e : rp (.lst ts) = 91 :: (jf 0 ((PyData.shownAll (T.dats ts)).map fun t => t.cps.toList) ++ [93]) := by
      simp only [rp, T.dat, PyData.shown]
      exact listText_list _
    refine ⟨by simpa [T.dat, PyData.showable] using h1, ?_, ?_⟩
    · intro c hc
      rw [e] at hc
      simp only [List.mem_cons, List.mem_append, List.not_mem_nil, or_false] at hc
      rcases hc with rfl | hc | rfl
      · decide
      · exact jf_all (p := fun c => decide (c < 128)) (by decide) (by decide) _ 0 h2 c hc
      · decide
    · rw [e]
      have := jf_len ((PyData.shownAll (T.dats ts)).map fun t => t.cps.toList) 0
      simp only [List.length_cons, List.length_append, List.length_nil, wt]
      omega
  | .tup ts, h => by
    simp only [sm] at h
    obtain ⟨h1, h2, h3⟩ := sms_ok ts h
    have e : rp (.tup ts) = 40 :: (jf 0 ((PyData.shownAll (T.dats ts)).map fun t => t.cps.toList) ++ if (PyData.shownAll (T.dats ts)).length = 1 then [44, 41] else [41]) := by
      simp only [rp, T.dat, PyData.shown]
      exact tupleText_list _
    refine ⟨by simpa [T.dat, PyData.showable] using h1, ?_, ?_⟩
    · intro c hc
      rw [e] at hc
      simp only [List.mem_cons, List.mem_append] at hc
      rcases hc with rfl | hc | hc
      · decide
      · exact jf_all (p := fun c => decide (c < 128)) (by decide) (by decide) _ 0 h2 c hc
      · split at hc
        · simp only [List.mem_cons, List.not_mem_nil, or_false] at hc
          rcases hc with rfl | rfl <;> decide
        · simp only [List.mem_cons, List.not_mem_nil, or_false] at hc
          subst hc; decide
    · rw [e]
      have := jf_len ((PyData.shownAll (T.dats ts)).map fun t => t.cps.toList) 0
      simp only [List.length_cons, List.length_append, wt]
      split <;> simp <;> omega
  | .dic _ _ _, h => by simp [sm] at h
  | .fro _, h => by simp [sm] at h
  | .cell _, h => by simp [sm] at h
theorem sms_ok : ∀ ts : List T, sms ts = true → PyData.showableAll (T.dats ts) = true ∧ (∀ x ∈ (PyData.shownAll (T.dats ts)).map (fun t => t.cps.toList), ∀ c ∈ x, decide (c < 128) = true) ∧ (((PyData.shownAll (T.dats ts)).map fun t => t.cps.toList).map fun t => t.length + 2).sum ≤ wts ts
  | [], _ => by simp [T.dats, PyData.showableAll, PyData.shownAll, wts]
  | t :: ts, h => by
    simp only [sms, Bool.and_eq_true] at h
    obtain ⟨a1, a2, a3⟩ := sm_ok t h.1
    obtain ⟨b1, b2, b3⟩ := sms_ok ts h.2
    refine ⟨by simp [T.dats, PyData.showableAll, a1, b1], ?_, ?_⟩
    · intro x hx
      simp only [T.dats, PyData.shownAll, List.map_cons, List.mem_cons] at hx
      rcases hx with rfl | hx
      · exact a2
      · exact b2 x hx
    · simp only [T.dats, PyData.shownAll, List.map_cons, List.sum_cons, wts]
      have : (t.dat.shown.cps.toList).length ≤ wt t := a3
      omega
end
theorem reprV_sm {t : T} (h : sm t = true) (hw : wt t ≤ sizeL) : reprV t = some (rp t) := by
  obtain ⟨h1, h2, h3⟩ := sm_ok t h
  unfold reprV
  have l : t.dat.shown.length ≤ sizeL := by
    have : t.dat.shown.length = (rp t).length := by simp [Str.length, rp]
    omega
  rw [if_pos]
  rw [h1, Bool.true_and, decide_eq_true l, Bool.true_and, List.all_eq_true]
  intro c hc
  have := of_decide_eq_true (h2 c hc)
  exact decide_eq_true (by omega)

/-! ### one to one -/
theorem take_dig {d x : List Nat} (h : d.all isDig = true) (hx : ∀ c r, x = c :: r → isDig c = false) : (d ++ x).takeWhile isDig = d ∧ (d ++ x).dropWhile isDig = x := by
  induction d with
  | nil =>
    cases x with
    | nil => simp
    | cons c r => simp [hx c r rfl]
  | cons a d ih =>
    rw [List.all_cons, Bool.and_eq_true] at h
    have := ih h.2
    simp [h.1, this.1, this.2]
theorem split_dig {d d' x x' : List Nat} (h : d.all isDig = true) (h' : d'.all isDig = true) (hx : ∀ c r, x = c :: r → isDig c = false) (hx' : ∀ c r, x' = c :: r → isDig c = false) (e : d ++ x = d' ++ x') : d = d' ∧ x = x' := by
  have a := take_dig h hx
  have b := take_dig h' hx'
  rw [e] at a
  exact ⟨a.1.symm.trans b.1, a.2.symm.trans b.2⟩
theorem jf_inj {z : List Nat} : ∀ (xs ys : List Nat) (k : Nat), (∀ x ∈ xs, x < 64) → (∀ y ∈ ys, y < 64) → jf k (xs.map dec) ++ 93 :: z = jf k (ys.map dec) ++ 93 :: z → xs = ys
  | [], [], _, _, _, _ => rfl
  | [], y :: ys, k, _, hy, e => by
    exfalso
    obtain ⟨_, h2, h3⟩ := dec_facts y (hy y List.mem_cons_self)
    simp only [List.map_nil, jf, List.nil_append, List.map_cons] at e
    split at e
    · simp at e
    · cases d : dec y with
      | nil => exact h2 d
      | cons c r =>
        rw [d] at e h3
        simp only [List.nil_append, List.cons_append, List.cons.injEq] at e
        rw [← e.1] at h3
        simp [isDig] at h3
  | x :: xs, [], k, hx, _, e => by
    exfalso
    obtain ⟨_, h2, h3⟩ := dec_facts x (hx x List.mem_cons_self)
    simp only [List.map_nil, jf, List.nil_append, List.map_cons] at e
    split at e
    · simp at e
    · cases d : dec x with
      | nil => exact h2 d
      | cons c r =>
        rw [d] at e h3
        simp only [List.nil_append, List.cons_append, List.cons.injEq] at e
        rw [e.1] at h3
        simp [isDig] at h3
  | x :: xs, y :: ys, k, hx, hy, e => by
    obtain ⟨_, h2, h3⟩ := dec_facts x (hx x List.mem_cons_self)
    obtain ⟨_, g2, g3⟩ := dec_facts y (hy y List.mem_cons_self)
    simp only [List.map_cons, jf, List.append_assoc] at e
    have e := List.append_cancel_left e
    have nd : ∀ (l : List (List Nat)) (c : Nat) (r : List Nat), jf (k + 1) l ++ 93 :: z = c :: r → isDig c = false := by
      intro l c r h
      cases l with
      | nil =>
        simp only [jf, List.nil_append, List.cons.injEq] at h
        rw [← h.1]; decide
      | cons t l =>
        simp only [jf] at h
        rw [if_pos (Nat.succ_pos _)] at h
        simp only [List.cons_append, List.cons.injEq] at h
        rw [← h.1]; decide
    obtain ⟨e1, e2⟩ := split_dig h3 g3 (nd _) (nd _) e
    rw [dec_inj64 x (hx x List.mem_cons_self) y (hy y List.mem_cons_self) e1, jf_inj xs ys (k + 1) (fun a ha => hx a (List.mem_cons_of_mem _ ha)) (fun a ha => hy a (List.mem_cons_of_mem _ ha)) e2]
def encI (xs : List Nat) : T := .lst (xs.map fun (x : Nat) => .int (x : Int))
theorem dats_map {α : Type} (f : α → T) : ∀ xs : List α, T.dats (xs.map f) = xs.map fun x => (f x).dat
  | [] => rfl
  | x :: xs => by simp [T.dats, dats_map f xs]
theorem shownAll_map : ∀ xs : List PyData, PyData.shownAll xs = xs.map PyData.shown
  | [] => rfl
  | x :: xs => by simp [PyData.shownAll, shownAll_map xs]
theorem rp_encI (xs : List Nat) : rp (encI xs) = 91 :: (jf 0 (xs.map dec) ++ [93]) := by
  simp only [rp, encI, T.dat, PyData.shown]
  rw [listText_list, dats_map, shownAll_map, List.map_map, List.map_map]
  congr 3
  apply List.map_congr_left
  intro a _
  exact shown_nat a
/-- (m, [xs]) -/
def encW (p : Nat × List Nat) : T := .tup [.int (p.1 : Int), encI p.2]
theorem rp_encW (p : Nat × List Nat) : rp (encW p) = 40 :: (dec p.1 ++ 44 :: (32 :: (91 :: (jf 0 (p.2.map dec) ++ 93 :: [41])))) := by
  have e := rp_encI p.2
  simp only [rp, encW, T.dat, T.dats, PyData.shown]
  rw [tupleText_list]
  simp only [PyData.shownAll, List.map_cons, List.map_nil, jf, shown_nat]
  have e' : ((encI p.2).dat).shown.cps.toList = 91 :: (jf 0 (p.2.map dec) ++ [93]) := e
  rw [e']
  simp
theorem rp_encW_inj {p q : Nat × List Nat} (hp : p.1 < 64 ∧ ∀ x ∈ p.2, x < 64) (hq : q.1 < 64 ∧ ∀ x ∈ q.2, x < 64) (e : rp (encW p) = rp (encW q)) : p = q := by
  rw [rp_encW, rp_encW] at e
  injection e with _ e
  have nd : ∀ (x : List Nat) (c : Nat) (r : List Nat), 44 :: x = c :: r → isDig c = false := fun x c r h => by
    injection h with h _
    rw [← h]; decide
  obtain ⟨e1, e2⟩ := split_dig (dec_facts p.1 hp.1).2.2 (dec_facts q.1 hq.1).2.2 (nd _) (nd _) e
  injection e2 with _ e2
  injection e2 with _ e2
  injection e2 with _ e2
  exact Prod.ext (dec_inj64 _ hp.1 _ hq.1 e1) (jf_inj _ _ 0 hp.2 hq.2 e2)
end Fx.Om
end

section
set_option Elab.async false
set_option linter.all false
set_option maxRecDepth 100000
/-! Ev1: what the evaluator answers on plain data. -/
namespace Fx
open PySem PySem.Spec PyProof.Rows L2 Fx.Om

/-- what a body's end makes of a call -/
def fin (f : Fl) (g : List T) : Out (T × Nat) := match f with
  | .rt r => .ok (norm r) g
  | .nx _ => .ok (.non, 2) g
  | _ => .bad
@[simp] theorem fin_rt (r : T × Nat) (g : List T) : fin (.rt r) g = .ok (norm r) g := (rfl)
@[simp] theorem fin_nx (e : VEnv) (g : List T) : fin (.nx e) g = .ok (.non, 2) g := (rfl)
@[simp] theorem norm_bl (b : Bool) (f : Nat) : norm (.bl b, f) = (.bl b, 2) := (rfl)
@[simp] theorem norm_int (b : Int) (f : Nat) : norm (.int b, f) = (.int b, 2) := (rfl)
@[simp] theorem norm_str (b : List Nat) (f : Nat) : norm (.str b, f) = (.str b, 2) := (rfl)
@[simp] theorem norm_non (f : Nat) : norm (.non, f) = (.non, 2) := (rfl)
@[simp] theorem norm_lst (b : List T) (f : Nat) : norm (.lst b, f) = (.lst b, f) := (rfl)
@[simp] theorem norm_dic (n : Bool) (b c : List T) (f : Nat) : norm (.dic n b c, f) = (.dic n b c, f) := (rfl)
@[simp] theorem norm_cell (b : Nat) (f : Nat) : norm (.cell b, f) = (.cell b, 2) := (rfl)
@[simp] theorem norm_fro (b : List T) (f : Nat) : norm (.fro b, f) = (.fro b, f) := (rfl)
@[simp] theorem truth_bl (b : Bool) : (T.bl b).truth = some b := (rfl)
@[simp] theorem truth_lst (b : List T) : (T.lst b).truth = some (!b.isEmpty) := (rfl)
@[simp] theorem truth_int (b : Int) : (T.int b).truth = some (b != 0) := (rfl)

/-! ### comprehensions -/
theorem compL_map {α : Type} {f : T → List T → Out (Option (T × Nat))} {e : α → T} {r : α → Option (T × Nat)} {g : List T} : ∀ {xs : List α}, (∀ x ∈ xs, f (e x) g = .ok (r x) g) → compL (xs.map e) g f = .ok (xs.filterMap r) g
  | [], _ => rfl
  | x :: xs, h => by
    simp only [List.map_cons, compL]
    rw [h x List.mem_cons_self, Out.bind_ok, compL_map fun y hy => h y (List.mem_cons_of_mem _ hy), Out.bind_ok, List.filterMap_cons]
    cases r x <;> rfl
/-- all taken -/
theorem compL_all {α : Type} {f : T → List T → Out (Option (T × Nat))} {e : α → T} {r : α → T × Nat} {g : List T} {xs : List α} (h : ∀ x ∈ xs, f (e x) g = .ok (some (r x)) g) : compL (xs.map e) g f = .ok (xs.map r) g := by
  rw [compL_map (r := fun x => some (r x)) h, List.filterMap_eq_map']
/-- some taken -/
theorem compL_some {α : Type} {f : T → List T → Out (Option (T × Nat))} {e : α → T} {p : α → Bool} {r : α → T × Nat} {g : List T} {xs : List α} (h : ∀ x ∈ xs, f (e x) g = .ok (if p x then some (r x) else none) g) : compL (xs.map e) g f = .ok ((xs.filter p).map r) g := by
  rw [compL_map (r := fun x => if p x then some (r x) else none) h]
  congr 1
  clear h
  induction xs with
  | nil => rfl
  | cons x xs ih =>
    rw [List.filterMap_cons, List.filter_cons]
    cases p x <;> simp [ih]
/-- none taken -/
theorem compL_none {f : T → List T → Out (Option (T × Nat))} {g : List T} : ∀ {ts : List T}, (∀ t ∈ ts, f t g = .ok none g) → compL ts g f = .ok [] g
  | [], _ => rfl
  | t :: ts, h => by
    simp only [compL]
    rw [h t List.mem_cons_self, Out.bind_ok, compL_none fun y hy => h y (List.mem_cons_of_mem _ hy), Out.bind_ok]
theorem allFl_of {rs : List (T × Nat)} (h : ∀ r ∈ rs, r.2 = 2 ∨ r.1.flat = true) : allFl rs = true := by
  unfold allFl
  rw [List.all_eq_true]
  intro r hr
  unfold isFlat2
  rcases h r hr with e | e
  · rw [e]; rfl
  · rw [e, Bool.or_true]
theorem allFl_map {α : Type} {xs : List α} {r : α → T × Nat} (h : ∀ x ∈ xs, (r x).2 = 2 ∨ (r x).1.flat = true) : allFl (xs.map r) = true := allFl_of fun y hy => by
  obtain ⟨x, hx, rfl⟩ := List.mem_map.mp hy
  exact h x hx

/-! ### loops -/
theorem forL_nil {b : T → VEnv → List T → Out Fl} {env : VEnv} {g : List T} : forL [] b env g = .ok (.nx env) g := rfl
/-- a loop whose turns go on, by an invariant of what is done -/
theorem forL_inv {b : T → VEnv → List T → Out Fl} {I : List T → VEnv → List T → Prop} {Q : Out Fl → Prop} : ∀ (ts don : List T) (env : VEnv) (g : List T), I don env g →
    (∀ don t env g, I don env g → ∃ env' g', (b t env g = .ok (.nx env') g' ∨ b t env g = .ok (.ct env') g') ∧ I (don ++ [t]) env' g') → (∀ env g, I (don ++ ts) env g → Q (.ok (.nx env) g)) → Q (forL ts b env g)
  | [], don, env, g, h, _, q => q env g (by simpa using h)
  | t :: r, don, env, g, h, st, q => by
    obtain ⟨env', g', e, h'⟩ := st don t env g h
    have := forL_inv (Q := Q) r (don ++ [t]) env' g' h' st (fun env g i => q env g (by simpa using i))
    rcases e with e | e <;> (simp only [forL]; rw [e, Out.bind_ok]; exact this)
/-- over the images of a list; the invariant speaks of how many are done -/
theorem forL_map {α : Type} {b : T → VEnv → List T → Out Fl} {e : α → T} {I : List α → VEnv → List T → Prop} {Q : Out Fl → Prop} : ∀ (xs don : List α) (env : VEnv) (g : List T), I don env g →
    (∀ pre x post env g, don ++ xs = pre ++ x :: post → I pre env g → ∃ env' g', (b (e x) env g = .ok (.nx env') g' ∨ b (e x) env g = .ok (.ct env') g') ∧ I (pre ++ [x]) env' g') → (∀ env g, I (don ++ xs) env g → Q (.ok (.nx env) g)) → Q (forL (xs.map e) b env g)
  | [], don, env, g, h, _, q => q env g (by simpa using h)
  | x :: r, don, env, g, h, st, q => by
    obtain ⟨env', g', e', h'⟩ := st don x r env g rfl h
    have := forL_map (b := b) (e := e) (I := I) (Q := Q) r (don ++ [x]) env' g' h' (fun pre x post env g eq => st pre x post env g (by simpa using eq)) (fun env g i => q env g (by simpa using i))
    rw [List.map_cons]
    rcases e' with e' | e' <;> (simp only [forL]; rw [e', Out.bind_ok]; exact this)
/-- a loop that looks for a turn at which to return -/
theorem forL_find {α : Type} {b : T → VEnv → List T → Out Fl} {e : α → T} {I : VEnv → Prop} {p : α → Bool} {r : T × Nat} {g : List T} : ∀ (xs : List α) (env : VEnv), I env →
    (∀ x ∈ xs, ∀ env, I env → (p x = true → ∃ env', b (e x) env g = .ok (.nx env') g ∧ I env') ∧ (p x = false → b (e x) env g = .ok (.rt r) g)) →
    (xs.all p = true → ∃ env', forL (xs.map e) b env g = .ok (.nx env') g ∧ I env') ∧ (xs.all p = false → forL (xs.map e) b env g = .ok (.rt r) g)
  | [], env, h, _ => ⟨fun _ => ⟨env, rfl, h⟩, fun z => by cases z⟩
  | x :: xs, env, h, st => by
    obtain ⟨s1, s2⟩ := st x List.mem_cons_self env h
    rw [List.map_cons, List.all_cons]
    cases c : p x with
    | true =>
      obtain ⟨env', e1, h'⟩ := s1 c
      have ih := forL_find (b := b) (e := e) (p := p) (r := r) (g := g) xs env' h' fun y hy => st y (List.mem_cons_of_mem _ hy)
      simp only [forL]
      rw [e1, Out.bind_ok, Bool.true_and]
      exact ih
    | false =>
      simp only [forL]
      rw [s2 c, Out.bind_ok, Bool.false_and]
      exact ⟨fun z => (by cases z), fun _ => rfl⟩

/-! ### trees of lists -/
theorem plains_map {α : Type} {f : α → T} : ∀ {xs : List α}, (∀ x ∈ xs, (f x).plain = true) → T.plains (xs.map f) = true
  | [], _ => rfl
  | x :: xs, h => by
    simp only [List.map_cons, T.plains, Bool.and_eq_true]
    exact ⟨h x List.mem_cons_self, plains_map fun y hy => h y (List.mem_cons_of_mem _ hy)⟩
theorem flats_map {α : Type} {f : α → T} : ∀ {xs : List α}, (∀ x ∈ xs, (f x).flat = true) → T.flats (xs.map f) = true
  | [], _ => rfl
  | x :: xs, h => by
    simp only [List.map_cons, T.flats, Bool.and_eq_true]
    exact ⟨h x List.mem_cons_self, flats_map fun y hy => h y (List.mem_cons_of_mem _ hy)⟩
theorem deeps_map {α : Type} {f : α → T} {n : Nat} : ∀ {xs : List α}, (∀ x ∈ xs, (f x).deep ≤ n) → T.deeps (xs.map f) ≤ n
  | [], _ => Nat.zero_le _
  | x :: xs, h => by
    simp only [List.map_cons, T.deeps]
    exact Nat.max_le.mpr ⟨h x List.mem_cons_self, deeps_map fun y hy => h y (List.mem_cons_of_mem _ hy)⟩
theorem eqvs_nil (ts : List T) : T.eqvs ts [] = ts.isEmpty := by cases ts <;> rfl
theorem eqvs_map {α β : Type} {f : α → T} {f' : β → T} : ∀ (xs : List α) (ys : List β), T.eqvs (xs.map f) (ys.map f') = (decide (xs.length = ys.length) && (xs.zip ys).all fun p => (f p.1).eqv (f' p.2))
  | [], [] => rfl
  | [], y :: ys => by simp [T.eqvs]
  | x :: xs, [] => by simp [T.eqvs]
  | x :: xs, y :: ys => by
    simp only [List.map_cons, T.eqvs, eqvs_map xs ys, List.length_cons, Nat.add_right_cancel_iff, List.zip_cons_cons, List.all_cons]
    cases (f x).eqv (f' y) <;> simp
theorem eqvs_map_eq {α : Type} [DecidableEq α] {f : α → T} (h : ∀ x y, (f x).eqv (f y) = decide (x = y)) : ∀ (xs ys : List α), T.eqvs (xs.map f) (ys.map f) = decide (xs = ys)
  | [], [] => rfl
  | [], y :: ys => by simp [T.eqvs]
  | x :: xs, [] => by simp [T.eqvs]
  | x :: xs, y :: ys => by
    simp only [List.map_cons, T.eqvs, eqvs_map_eq h xs ys, h, List.cons.injEq]
    by_cases e1 : x = y <;> by_cases e2 : xs = ys <;> simp [e1, e2]
theorem eqv_nat (a b : Nat) : (T.int (a : Int)).eqv (.int (b : Int)) = decide (a = b) := by
  simp only [T.eqv]
  by_cases h : a = b
  · simp [h]
  · have : ¬ (a : Int) = (b : Int) := fun z => h (by omega)
    simp [h, this]
theorem eqv_str (a b : List Nat) : (T.str a).eqv (.str b) = decide (a = b) := by
  simp only [T.eqv]
  by_cases h : a = b <;> simp [h]
theorem eqv_encI (xs ys : List Nat) : (encI xs).eqv (encI ys) = decide (xs = ys) := by
  simp only [encI, T.eqv]
  exact eqvs_map_eq eqv_nat xs ys
def encL (l : List (List Nat)) : T := .lst (l.map .str)
theorem eqv_encL (xs ys : List (List Nat)) : (encL xs).eqv (encL ys) = decide (xs = ys) := by
  simp only [encL, T.eqv]
  exact eqvs_map_eq eqv_str xs ys
def encU (u : List (List Nat)) : T := .lst (u.map encI)
def encM (l : List (List (List Nat))) : T := .lst (l.map encL)
def encO (u : List (List Nat)) (l : List (List (List Nat))) : T := .tup [encU u, encM l]
theorem plain_encI (xs : List Nat) : (encI xs).plain = true := by
  simp only [encI, T.plain]
  exact plains_map fun _ _ => rfl
theorem plain_encL (xs : List (List Nat)) : (encL xs).plain = true := by
  simp only [encL, T.plain]
  exact plains_map fun _ _ => rfl
theorem plain_encU (u : List (List Nat)) : (encU u).plain = true := by
  simp only [encU, T.plain]
  exact plains_map fun x _ => plain_encI x
theorem plain_encM (u : List (List (List Nat))) : (encM u).plain = true := by
  simp only [encM, T.plain]
  exact plains_map fun x _ => plain_encL x
theorem deep_encI (xs : List Nat) : (encI xs).deep ≤ 1 := by
  simp only [encI, T.deep]
  exact Nat.succ_le_succ (deeps_map fun _ _ => Nat.zero_le _)
theorem deep_encL (xs : List (List Nat)) : (encL xs).deep ≤ 1 := by
  simp only [encL, T.deep]
  exact Nat.succ_le_succ (deeps_map fun _ _ => Nat.zero_le _)
theorem deep_encU (u : List (List Nat)) : (encU u).deep ≤ 2 := by
  simp only [encU, T.deep]
  exact Nat.succ_le_succ (deeps_map fun x _ => deep_encI x)
theorem deep_encM (u : List (List (List Nat))) : (encM u).deep ≤ 2 := by
  simp only [encM, T.deep]
  exact Nat.succ_le_succ (deeps_map fun x _ => deep_encL x)
theorem any_eqv_nat (i : Nat) (xs : List Nat) : ((xs.map fun (x : Nat) => T.int (x : Int)).any fun z => z.eqv (.int (i : Int))) = decide (i ∈ xs) := by
  rw [List.any_map, Bool.eq_iff_iff, List.any_eq_true, decide_eq_true_iff]
  constructor
  · rintro ⟨x, hx, e⟩
    simp only [Function.comp] at e
    rw [eqv_nat] at e
    exact (of_decide_eq_true e) ▸ hx
  · intro h
    exact ⟨i, h, by simp only [Function.comp]; rw [eqv_nat]; simp⟩
theorem inV_encI (i : Nat) (xs : List Nat) : inV (.int (i : Int)) (encI xs) = some (decide (i ∈ xs)) := by
  simp only [inV, encI]
  rw [if_pos, any_eqv_nat]
  simp only [T.okEqs, T.plain, T.deep, Bool.true_and, Bool.and_eq_true]
  exact ⟨plains_map fun _ _ => rfl, by simp⟩
theorem any_eqv_str (s : List Nat) (xs : List (List Nat)) : ((xs.map T.str).any fun z => z.eqv (.str s)) = decide (s ∈ xs) := by
  rw [List.any_map, Bool.eq_iff_iff, List.any_eq_true, decide_eq_true_iff]
  constructor
  · rintro ⟨x, hx, e⟩
    simp only [Function.comp] at e
    rw [eqv_str] at e
    exact (of_decide_eq_true e) ▸ hx
  · intro h
    exact ⟨s, h, by simp only [Function.comp]; rw [eqv_str]; simp⟩
theorem inV_encL (s : List Nat) (xs : List (List Nat)) : inV (.str s) (encL xs) = some (decide (s ∈ xs)) := by
  simp only [inV, encL]
  rw [if_pos, any_eqv_str]
  simp only [T.okEqs, T.plain, T.deep, Bool.true_and, Bool.and_eq_true]
  exact ⟨plains_map fun _ _ => rfl, by simp⟩
theorem atI_zero {α : Type} (xs : List α) : atI xs 0 = xs[0]? := atI_nat (xs := xs) (i := 0)
theorem atI_one {α : Type} (xs : List α) : atI xs 1 = xs[1]? := atI_nat (xs := xs) (i := 1)
theorem cmp_eq {a b : T} (ha : a.plain = true) (hb : b.plain = true) (hd : a.deep ≤ 64) : cmpV .Eq a b = some (a.eqv b) := by
  simp only [cmpV]
  rw [if_pos]
  simp [T.okEq, ha, hb, hd]
theorem cmp_ne {a b : T} (ha : a.plain = true) (hb : b.plain = true) (hd : a.deep ≤ 64) : cmpV .NotEq a b = some (!a.eqv b) := by
  simp only [cmpV]
  rw [if_pos]
  simp [T.okEq, ha, hb, hd]
theorem cmp_eq_nil {ts : List T} (h : T.plains ts = true) : cmpV .Eq (.lst ts) (.lst []) = some ts.isEmpty := by
  simp only [cmpV, T.eqv]
  rw [if_pos, eqvs_nil]
  simp [T.okEq, T.plain, T.plains, T.deep, T.deeps, h]
theorem cmp_ne_nil {ts : List T} (h : T.plains ts = true) : cmpV .NotEq (.lst ts) (.lst []) = some (!ts.isEmpty) := by
  simp only [cmpV, T.eqv]
  rw [if_pos, eqvs_nil]
  simp [T.okEq, T.plain, T.plains, T.deep, T.deeps, h]
theorem lt_nat (a b : Nat) : cmpV .Lt (.int (a : Int)) (.int (b : Int)) = some (decide (a < b)) := by
  simp only [cmpV, ordV]
  congr 1
  exact decide_eq_decide.mpr (by omega)
theorem mem_rangeT {lo : Int} {n : Nat} {t : T} (h : t ∈ rangeT lo n) : ∃ i, i < n ∧ t = .int (lo + (i : Nat)) := by
  obtain ⟨i, hi, rfl⟩ := List.mem_map.mp h
  exact ⟨i, List.mem_range.mp hi, rfl⟩
theorem rangeT_zero (n : Nat) : rangeT 0 n = (List.range n).map fun (i : Nat) => T.int (i : Int) := by
  unfold rangeT
  apply List.map_congr_left
  intro i _
  simp
theorem small_nat {n : Nat} (h : n ≤ 1000000) : smallI (n : Int) = true := by
  unfold smallI
  rw [Bool.and_eq_true]
  constructor <;> apply decide_eq_true <;> omega

/-! ### the evaluator, locked: nothing unfolds it -/
theorem exLock {α : Type} (a : α) : ∃ b, b = a := ⟨a, rfl⟩
noncomputable def lock {α : Type} (a : α) : α := Classical.choose (exLock a)
theorem lock_eq {α : Type} (a : α) : lock a = a := Classical.choose_spec (exLock a)
noncomputable def eE : Call → Env → E → List T → Out (T × Nat) := lock evalE
noncomputable def eEs : Call → Env → Es → List T → Out (List (T × Nat)) := lock evalEs
noncomputable def eIt : Call → Env → It → List T → Out (List T) := lock evalIt
noncomputable def eS : Call → Nat → S → VEnv → List T → Out Fl := lock evalS
noncomputable def eSs : Call → Nat → Ss → VEnv → List T → Out Fl := lock evalSs
noncomputable def eF (P : List Fn) (W k : Nat) : Call := lock (evalF P W k)
theorem eE_def : eE = evalE := lock_eq _
theorem eEs_def : eEs = evalEs := lock_eq _
theorem eIt_def : eIt = evalIt := lock_eq _
theorem eS_def : eS = evalS := lock_eq _
theorem eSs_def : eSs = evalSs := lock_eq _
theorem eF_def (P : List Fn) (W k : Nat) : eF P W k = evalF P W k := lock_eq _

/-! ### statements, for simp -/
section
variable {F : Call} {W : Nat} {env : VEnv} {g : List T}
noncomputable def tst (F : Call) (ns : List Nat) (c : E) (env : VEnv) (g : List T) : Out (Bool × VEnv) := (eE F (only ns 0 env) c g).bind fun x g => Out.of g (x.1.truth.map fun t => (t, env))
noncomputable def turnF (F : Call) (W : Nat) (tg : Tg) (b : Ss) (t : T) (env : VEnv) (g : List T) : Out Fl := match bindV tg t env with
  | some env => eSs F W b env g
  | none => .bad
@[simp] theorem s_set {i : Nat} {ns : List Nat} {e : E} : eS F W (.set i ns e) env g = (eE F (only ns 0 env) e g).bind fun r g => .ok (.nx ((after ns (norm r).2 env).set i (some (norm r)))) g := by simp only [eE_def, eEs_def, eIt_def, eS_def, eSs_def, tst, turnF]; rfl
@[simp] theorem s_unp {is ns : List Nat} {e : E} : eS F W (.unp is ns e) env g = (eE F (only ns 0 env) e g).bind fun r g => Out.of g ((bindV (.many is) r.1 (after ns (norm r).2 env)).map .nx) := by simp only [eE_def, eEs_def, eIt_def, eS_def, eSs_def, tst, turnF]; rfl
@[simp] theorem s_par {is ns : List Nat} {es : Es} : eS F W (.par is ns es) env g = (eEs F (only ns 0 env) es g).bind fun rs g => if rs.length = is.length then .ok (.nx (putAll (is.zip rs) (after ns (minFl rs) env))) g else .bad := by simp only [eE_def, eEs_def, eIt_def, eS_def, eSs_def, tst, turnF]; rfl
@[simp] theorem s_seti {i : Nat} {ns nk : List Nat} {k e : E} : eS F W (.seti i ns nk k e) env g = (eE F (only ns 0 env) e g).bind fun r g => (eE F (only nk 0 env) k g).bind fun k g => setiV (after ns (norm r).2 env) i k.1 r g := by simp only [eE_def, eEs_def, eIt_def, eS_def, eSs_def, tst, turnF]; rfl
@[simp] theorem s_app {i : Nat} {ns : List Nat} {e : E} : eS F W (.app i ns e) env g = (eE F (only ns 0 env) e g).bind fun r g => (match (after ns (norm r).2 env).getD i none with
    | some (.lst ts, f) => if f = 0 ∨ 1000000 ≤ ts.length then .bad else .ok (.nx ((after ns (norm r).2 env).set i (some (.lst (ts ++ [r.1]), fl2 f (norm r).2)))) g
    | _ => .bad) := by simp only [eE_def, eEs_def, eIt_def, eS_def, eSs_def, tst, turnF]; rfl
@[simp] theorem s_pop {j i : Nat} : eS F W (.pop j i) env g = (match env.getD i none with
    | some (.lst ts, f) => if f = 0 then .bad else (match ts.getLast? with
      | some t => .ok (.nx ((env.set i (some (.lst ts.dropLast, 1))).set j (some (norm (t, 0))))) g
      | none => .bad)
    | _ => .bad) := by simp only [eE_def, eEs_def, eIt_def, eS_def, eSs_def, tst, turnF]; rfl
@[simp] theorem s_cel {i : Nat} {ns : List Nat} {e : E} : eS F W (.cel i ns e) env g = (eE F (only ns 0 env) e g).bind fun r g => (match r with
    | (.lst ts, f) => if f = 0 ∨ T.flats ts = false ∨ T.plains ts = false then .bad else .ok (.nx ((after ns f env).set i (some (.cell g.length, 0)))) (g ++ [.lst ts])
    | _ => .bad) := by simp only [eE_def, eEs_def, eIt_def, eS_def, eSs_def, tst, turnF]; rfl
@[simp] theorem s_appE {ns : List Nat} {e c : E} : eS F W (.appE ns e c) env g = (eE F (only ns 0 env) e g).bind fun r g => (eE F [] c g).bind fun _ g => if isLstT r.1 && r.2 != 0 then .ok (.nx env) g else .bad := by simp only [eE_def, eEs_def, eIt_def, eS_def, eSs_def, tst, turnF]; rfl
@[simp] theorem s_appV {i : Nat} {path : List Nat} {c : E} : eS F W (.appV i path c) env g = (match env.getD i none with
    | some (t, f) => (eE F [] c g).bind fun _ g => if f = 2 then (match walkT t path with
      | some u => if isLstT u then .ok (.nx (env.set i none)) g else .bad
      | none => .bad) else .bad
    | none => .bad) := by simp only [eE_def, eEs_def, eIt_def, eS_def, eSs_def, tst, turnF]; rfl
@[simp] theorem s_exp {ns : List Nat} {e : E} : eS F W (.exp ns e) env g = (eE F (only ns 0 env) e g).bind fun _ g => .ok (.nx env) g := by simp only [eE_def, eEs_def, eIt_def, eS_def, eSs_def, tst, turnF]; rfl
@[simp] theorem s_ret {ns : List Nat} {e : E} : eS F W (.ret ns e) env g = (eE F (only ns 0 env) e g).bind fun r g => .ok (.rt r) g := by simp only [eE_def, eEs_def, eIt_def, eS_def, eSs_def, tst, turnF]; rfl
@[simp] theorem s_retV {i : Nat} : eS F W (.retV i) env g = (match env.getD i none with
    | some r => .ok (.rt r) g
    | none => .bad) := by simp only [eE_def, eEs_def, eIt_def, eS_def, eSs_def, tst, turnF]; rfl
@[simp] theorem s_retT {i : Nat} {ns : List Nat} {es : Es} : eS F W (.retT i ns es) env g = (match env.getD i none with
    | some (t, f) => if ns.contains i then .bad else (eEs F (only ns 0 env) es g).bind fun rs g => .ok (.rt (.tup (t :: rs.map (·.1)), if f = 2 ∧ allFl rs then 2 else 0)) g
    | none => .bad) := by simp only [eE_def, eEs_def, eIt_def, eS_def, eSs_def, tst, turnF]; rfl
@[simp] theorem s_ifs {ns : List Nat} {c : E} {a b : Ss} : eS F W (.ifs ns c a b) env g = (eE F (only ns 0 env) c g).bind fun x g => (match x.1.truth with
    | some true => eSs F W a env g
    | some false => eSs F W b env g
    | none => .bad) := by simp only [eE_def, eEs_def, eIt_def, eS_def, eSs_def, tst, turnF]; rfl
theorem turnF_eq {tg : Tg} {b : Ss} : turnF F W tg b = fun t env g => match bindV tg t env with
    | some env => evalSs F W b env g
    | none => .bad := by
  funext t env g
  simp only [turnF, eSs_def]
theorem tst_eq {ns : List Nat} {c : E} : tst F ns c = fun env g => (evalE F (only ns 0 env) c g).bind fun x g => Out.of g (x.1.truth.map fun t => (t, env)) := by
  funext env g
  simp only [tst, eE_def]
@[simp] theorem s_for {tg : Tg} {ns : List Nat} {it : It} {b : Ss} : eS F W (.for_ tg ns it b) env g = (eIt F (only ns 0 env) it g).bind fun ts g => forL ts (turnF F W tg b) (demote ns 0 env) g := by
  rw [turnF_eq, eS_def, eIt_def]
  rfl
@[simp] theorem s_whl {ns : List Nat} {c : E} {b : Ss} : eS F W (.whl ns c b) env g = whlL W (tst F ns c) (eSs F W b) env g := by
  rw [tst_eq, eS_def, eSs_def]
  rfl
@[simp] theorem ss_nil : eSs F W .nil env g = .ok (.nx env) g := by simp only [eE_def, eEs_def, eIt_def, eS_def, eSs_def, tst, turnF]; rfl
theorem ss_cons {s : S} {r : Ss} : eSs F W (.cons s r) env g = (eS F W s env g).bind fun f g => (match f with
    | .nx env => eSs F W r env g
    | f => .ok f g) := by simp only [eE_def, eEs_def, eIt_def, eS_def, eSs_def, tst, turnF]; rfl
/-- one statement, then the others -/
theorem ss_nx {s : S} {r : Ss} {env' : VEnv} {g' : List T} (h : eS F W s env g = .ok (.nx env') g') : eSs F W (.cons s r) env g = eSs F W r env' g' := by rw [ss_cons, h]; rfl
theorem ss_rt {s : S} {r : Ss} {x : T × Nat} {g' : List T} (h : eS F W s env g = .ok (.rt x) g') : eSs F W (.cons s r) env g = .ok (.rt x) g' := by rw [ss_cons, h]; rfl
theorem whl_stop {n : Nat} {t : VEnv → List T → Out (Bool × VEnv)} {b : VEnv → List T → Out Fl} (h : t env g = .ok (false, env) g) : whlL (n + 1) t b env g = .ok (.nx env) g := by simp [whlL, h]
theorem whl_go {n : Nat} {t : VEnv → List T → Out (Bool × VEnv)} {b : VEnv → List T → Out Fl} {env' : VEnv} {g' : List T} (h : t env g = .ok (true, env) g) (h' : b env g = .ok (.nx env') g') : whlL (n + 1) t b env g = whlL n t b env' g' := by simp [whlL, h, h']
theorem whl_rt {n : Nat} {t : VEnv → List T → Out (Bool × VEnv)} {b : VEnv → List T → Out Fl} {x : T × Nat} {g' : List T} (h : t env g = .ok (true, env) g) (h' : b env g = .ok (.rt x) g') : whlL (n + 1) t b env g = .ok (.rt x) g' := by simp [whlL, h, h']
end
end Fx
end

section
set_option Elab.async false
set_option linter.all false
set_option maxRecDepth 100000
/-! Ev2: formulas as trees. -/
namespace Fx
open Fx.Om in
@[simp] theorem eqv_str' (a b : List Nat) : (T.str a).eqv (.str b) = decide (a = b) := eqv_str a b
open PySem PySem.Spec PyProof.Rows L2 Fx.Om

def encF : Fm → T
  | .is s => .tup [.str [105, 115], .str s]
  | .no => .tup [.str [110, 111]]
  | .and f g => .tup [.str [97, 110, 100], encF f, encF g]
  | .or f g => .tup [.str [111, 114], encF f, encF g]
  | .thn f g => .tup [.str [116, 104, 101, 110], encF f, encF g]
def kids : Fm → List Fm
  | .is _ => []
  | .no => []
  | .and f g => [f, g]
  | .or f g => [f, g]
  | .thn f g => [f, g]
def siz : Fm → Nat
  | .is _ => 1
  | .no => 1
  | .and f g => siz f + siz g + 1
  | .or f g => siz f + siz g + 1
  | .thn f g => siz f + siz g + 1
def dep : Fm → Nat
  | .is _ => 0
  | .no => 0
  | .and f g => max (dep f) (dep g) + 1
  | .or f g => max (dep f) (dep g) + 1
  | .thn f g => max (dep f) (dep g) + 1
def parts : Fm → List Fm
  | .is s => [.is s]
  | .no => [.no]
  | .and f g => .and f g :: (parts f ++ parts g)
  | .or f g => .or f g :: (parts f ++ parts g)
  | .thn f g => .thn f g :: (parts f ++ parts g)
/-- the letters of a formula keep to N -/
def okF (N : List (List Nat)) : Fm → Prop
  | .is s => s ∈ N
  | .no => True
  | .and f g => okF N f ∧ okF N g
  | .or f g => okF N f ∧ okF N g
  | .thn f g => okF N f ∧ okF N g
theorem flat_encF : ∀ f, (encF f).flat = true
  | .is s => rfl
  | .no => rfl
  | .and f g => by simp [encF, T.flat, T.flats, flat_encF f, flat_encF g]
  | .or f g => by simp [encF, T.flat, T.flats, flat_encF f, flat_encF g]
  | .thn f g => by simp [encF, T.flat, T.flats, flat_encF f, flat_encF g]
theorem plain_encF : ∀ f, (encF f).plain = true
  | .is s => rfl
  | .no => rfl
  | .and f g => by simp [encF, T.plain, T.plains, plain_encF f, plain_encF g]
  | .or f g => by simp [encF, T.plain, T.plains, plain_encF f, plain_encF g]
  | .thn f g => by simp [encF, T.plain, T.plains, plain_encF f, plain_encF g]
theorem deep_encF : ∀ f, (encF f).deep = dep f + 1
  | .is s => rfl
  | .no => rfl
  | .and f g => by simp [encF, T.deep, T.deeps, deep_encF f, deep_encF g, dep]
  | .or f g => by simp [encF, T.deep, T.deeps, deep_encF f, deep_encF g, dep]
  | .thn f g => by simp [encF, T.deep, T.deeps, deep_encF f, deep_encF g, dep]
@[simp] theorem eqv_int (a b : Int) : (T.int a).eqv (.int b) = (a == b) := (rfl)
@[simp] theorem eqv_tup (xs ys : List T) : (T.tup xs).eqv (.tup ys) = T.eqvs xs ys := (rfl)
@[simp] theorem eqv_lst (xs ys : List T) : (T.lst xs).eqv (.lst ys) = T.eqvs xs ys := (rfl)
@[simp] theorem eqvs_cons (x y : T) (xs ys : List T) : T.eqvs (x :: xs) (y :: ys) = (x.eqv y && T.eqvs xs ys) := (rfl)
@[simp] theorem eqvs_nn : T.eqvs [] [] = true := (rfl)
@[simp] theorem eqvs_nc (y : T) (ys : List T) : T.eqvs [] (y :: ys) = false := (rfl)
@[simp] theorem eqvs_cn (y : T) (ys : List T) : T.eqvs (y :: ys) [] = false := (rfl)
theorem eqv_encF : ∀ f g : Fm, (encF f).eqv (encF g) = decide (f = g)
  | .is s, .is u => by by_cases h : s = u <;> simp [encF, eqv_tup, eqvs_cons, eqvs_nn, eqv_str, h]
  | .is s, .no => by simp [encF, eqv_tup, eqvs_cons, eqvs_nn, eqvs_nc, eqvs_cn, eqv_str]
  | .is s, .and c d => by simp [encF, eqv_tup, eqvs_cons, eqvs_nn, eqvs_nc, eqvs_cn, eqv_str]
  | .is s, .or c d => by simp [encF, eqv_tup, eqvs_cons, eqvs_nn, eqvs_nc, eqvs_cn, eqv_str]
  | .is s, .thn c d => by simp [encF, eqv_tup, eqvs_cons, eqvs_nn, eqvs_nc, eqvs_cn, eqv_str]
  | .no, .is u => by simp [encF, eqv_tup, eqvs_cons, eqvs_nn, eqvs_nc, eqvs_cn, eqv_str]
  | .no, .no => by simp [encF, eqv_tup, eqvs_cons, eqvs_nn, eqvs_nc, eqvs_cn, eqv_str]
  | .no, .and c d => by simp [encF, eqv_tup, eqvs_cons, eqvs_nn, eqvs_nc, eqvs_cn, eqv_str]
  | .no, .or c d => by simp [encF, eqv_tup, eqvs_cons, eqvs_nn, eqvs_nc, eqvs_cn, eqv_str]
  | .no, .thn c d => by simp [encF, eqv_tup, eqvs_cons, eqvs_nn, eqvs_nc, eqvs_cn, eqv_str]
  | .and a b, .is u => by simp [encF, eqv_tup, eqvs_cons, eqvs_nn, eqvs_nc, eqvs_cn, eqv_str]
  | .and a b, .no => by simp [encF, eqv_tup, eqvs_cons, eqvs_nn, eqvs_nc, eqvs_cn, eqv_str]
  | .and a b, .and c d => by simp [encF, eqv_tup, eqvs_cons, eqvs_nn, eqvs_nc, eqvs_cn, eqv_str, eqv_encF a c, eqv_encF b d]
  | .and a b, .or c d => by simp [encF, eqv_tup, eqvs_cons, eqvs_nn, eqvs_nc, eqvs_cn, eqv_str]
  | .and a b, .thn c d => by simp [encF, eqv_tup, eqvs_cons, eqvs_nn, eqvs_nc, eqvs_cn, eqv_str]
  | .or a b, .is u => by simp [encF, eqv_tup, eqvs_cons, eqvs_nn, eqvs_nc, eqvs_cn, eqv_str]
  | .or a b, .no => by simp [encF, eqv_tup, eqvs_cons, eqvs_nn, eqvs_nc, eqvs_cn, eqv_str]
  | .or a b, .and c d => by simp [encF, eqv_tup, eqvs_cons, eqvs_nn, eqvs_nc, eqvs_cn, eqv_str]
  | .or a b, .or c d => by simp [encF, eqv_tup, eqvs_cons, eqvs_nn, eqvs_nc, eqvs_cn, eqv_str, eqv_encF a c, eqv_encF b d]
  | .or a b, .thn c d => by simp [encF, eqv_tup, eqvs_cons, eqvs_nn, eqvs_nc, eqvs_cn, eqv_str]
  | .thn a b, .is u => by simp [encF, eqv_tup, eqvs_cons, eqvs_nn, eqvs_nc, eqvs_cn, eqv_str]
  | .thn a b, .no => by simp [encF, eqv_tup, eqvs_cons, eqvs_nn, eqvs_nc, eqvs_cn, eqv_str]
  | .thn a b, .and c d => by simp [encF, eqv_tup, eqvs_cons, eqvs_nn, eqvs_nc, eqvs_cn, eqv_str]
  | .thn a b, .or c d => by simp [encF, eqv_tup, eqvs_cons, eqvs_nn, eqvs_nc, eqvs_cn, eqv_str]
  | .thn a b, .thn c d => by simp [encF, eqv_tup, eqvs_cons, eqvs_nn, eqvs_nc, eqvs_cn, eqv_str, eqv_encF a c, eqv_encF b d]
theorem siz_pos (f : Fm) : 0 < siz f := by cases f <;> simp [siz]
def tsz (L : List Fm) : Nat := (L.map siz).sum
theorem tsz_next (L : List Fm) : tsz (L.flatMap kids) + L.length = tsz L := by
  induction L with
  | nil => rfl
  | cons f L ih =>
    have e : tsz (kids f) + 1 = siz f := by cases f <;> simp [tsz, kids, siz]
    simp only [tsz, List.flatMap_cons, List.map_append, List.sum_append, List.length_cons, List.map_cons, List.sum_cons] at ih e ⊢
    omega
theorem tsz_pos {L : List Fm} (h : L ≠ []) : 0 < tsz L := by
  cases L with
  | nil => exact absurd rfl h
  | cons f L =>
    have := siz_pos f
    simp only [tsz, List.map_cons, List.sum_cons]
    omega
theorem okF_kids {N : List (List Nat)} {f : Fm} (h : okF N f) : ∀ g ∈ kids f, okF N g := by
  cases f <;> simp [kids, okF] at * <;> exact h
theorem parts_kids (f : Fm) : parts f = f :: (kids f).flatMap parts := by cases f <;> simp [parts, kids]
theorem parts_len (f : Fm) : (parts f).length = siz f := by
  induction f with
  | is s => rfl
  | no => rfl
  | and f g h1 h2 => simp [parts, siz, h1, h2]
  | or f g h1 h2 => simp [parts, siz, h1, h2]
  | thn f g h1 h2 => simp [parts, siz, h1, h2]
theorem parts_ok {N : List (List Nat)} : ∀ {f : Fm}, okF N f → ∀ g ∈ parts f, okF N g
  | .is s, h, g, hg => by simp [parts] at hg; subst hg; exact h
  | .no, h, g, hg => by simp [parts] at hg; subst hg; exact h
  | .and a b, h, g, hg => by
    simp only [parts, List.mem_cons, List.mem_append] at hg
    rcases hg with rfl | hg | hg
    · exact h
    · exact parts_ok h.1 g hg
    · exact parts_ok h.2 g hg
  | .or a b, h, g, hg => by
    simp only [parts, List.mem_cons, List.mem_append] at hg
    rcases hg with rfl | hg | hg
    · exact h
    · exact parts_ok h.1 g hg
    · exact parts_ok h.2 g hg
  | .thn a b, h, g, hg => by
    simp only [parts, List.mem_cons, List.mem_append] at hg
    rcases hg with rfl | hg | hg
    · exact h
    · exact parts_ok h.1 g hg
    · exact parts_ok h.2 g hg
theorem parts_dep : ∀ {f : Fm}, ∀ g ∈ parts f, dep g ≤ dep f
  | .is s, g, hg => by simp [parts] at hg; subst hg; exact Nat.le_refl _
  | .no, g, hg => by simp [parts] at hg; subst hg; exact Nat.le_refl _
  | .and a b, g, hg => by
    simp only [parts, List.mem_cons, List.mem_append] at hg
    rcases hg with rfl | hg | hg
    · exact Nat.le_refl _
    · have := parts_dep g hg; simp only [dep]; omega
    · have := parts_dep g hg; simp only [dep]; omega
  | .or a b, g, hg => by
    simp only [parts, List.mem_cons, List.mem_append] at hg
    rcases hg with rfl | hg | hg
    · exact Nat.le_refl _
    · have := parts_dep g hg; simp only [dep]; omega
    · have := parts_dep g hg; simp only [dep]; omega
  | .thn a b, g, hg => by
    simp only [parts, List.mem_cons, List.mem_append] at hg
    rcases hg with rfl | hg | hg
    · exact Nat.le_refl _
    · have := parts_dep g hg; simp only [dep]; omega
    · have := parts_dep g hg; simp only [dep]; omega
/-- in the turned list what is within stands ahead -/
theorem parts_behind {f : Fm} : ∀ {pre post : List Fm} {g : Fm}, parts f = pre ++ g :: post → ∀ h ∈ kids g, h ∈ post := by
  have big : ∀ (n : Nat) (L : List Fm), tsz L ≤ n → ∀ (pre post : List Fm) (g : Fm), L.flatMap parts = pre ++ g :: post → ∀ h ∈ kids g, h ∈ post := by
    intro n
    induction n with
    | zero =>
      intro L hL pre post g e
      have : L = [] := Classical.byContradiction fun c => by have := tsz_pos c; omega
      subst this
      simp at e
    | succ n ih =>
      intro L hL pre post g e h hh
      cases L with
      | nil => simp at e
      | cons f L =>
        rw [List.flatMap_cons, parts_kids] at e
        cases pre with
        | nil =>
          simp only [List.cons_append, List.nil_append, List.cons.injEq] at e
          obtain ⟨rfl, e⟩ := e
          rw [← e]
          refine List.mem_append.mpr (.inl (List.mem_flatMap.mpr ⟨h, hh, ?_⟩))
          rw [parts_kids]
          exact List.mem_cons_self
        | cons p pre =>
          simp only [List.cons_append, List.cons.injEq] at e
          obtain ⟨_, e⟩ := e
          rw [← List.flatMap_append] at e
          refine ih (kids f ++ L) ?_ pre post g e h hh
          have := siz_pos f
          have e2 : tsz (kids f) + 1 = siz f := by cases f <;> simp [tsz, kids, siz]
          simp only [tsz, List.map_cons, List.sum_cons, List.map_append, List.sum_append] at hL e2 ⊢
          omega
  intro pre post g e
  exact big _ [f] (Nat.le_refl _) pre post g (by simpa using e)
def encB (bs : List Bool) : T := .lst (bs.map .bl)
theorem plain_encB (bs : List Bool) : (encB bs).plain = true := by
  simp only [encB, T.plain]
  exact plains_map fun _ _ => rfl
theorem deep_encB (bs : List Bool) : (encB bs).deep ≤ 1 := by
  simp only [encB, T.deep]
  exact Nat.succ_le_succ (deeps_map fun _ _ => Nat.zero_le _)
/-- the dict of what is known -/
def encK (ups : List (List Nat)) (lets : List (List (List Nat))) (D : List Fm) : T := .dic true (D.map encF) (D.map fun h => encB (tv ups lets h))
theorem look_encK (ups : List (List Nat)) (lets : List (List (List Nat))) (h : Fm) : ∀ D : List Fm, lookT (D.map encF) (D.map fun h => encB (tv ups lets h)) (encF h) = if h ∈ D then some (encB (tv ups lets h)) else none
  | [] => rfl
  | d :: D => by
    have ih := look_encK ups lets h D
    unfold lookT at ih ⊢
    simp only [List.map_cons, List.zip_cons_cons, List.find?_cons, eqv_encF]
    by_cases e : d = h
    · subst e; simp
    · have e' : ¬ h = d := fun z => e z.symm
      simp only [e, decide_false, Bool.false_eq_true, if_false, List.mem_cons, e', false_or]
      exact ih
theorem keyOk_encF {f : Fm} (h : dep f ≤ 7) : keyOk true (encF f) = true := by
  have h1 := flat_encF f
  have h2 := plain_encF f
  have h3 := deep_encF f
  cases f <;> simp only [encF, keyOk, T.flat, T.plain, T.deep] at * <;> rw [h1, h2] <;> simp <;> omega
end Fx
end

section
set_option Elab.async false
set_option linter.all false
set_option maxRecDepth 100000
/-! Ev3: small steps, for simp. -/
namespace Fx
open PySem PySem.Spec PyProof.Rows L2 Fx.Om
section
variable {F : Call} {env : Env} {venv : VEnv} {g : List T} {ts us : List T} {f f1 f2 : Nat} {i j : Int} {b c : Bool} {s u : List Nat}
@[simp] theorem only_nil {ns : List Nat} {k : Nat} : only ns k [] = [] := (rfl)
@[simp] theorem only_cons {ns : List Nat} {k : Nat} {x : Option (T × Nat)} {r : VEnv} : only ns k (x :: r) = (if ns.contains k then x.map (·.1) else none) :: only ns (k + 1) r := (rfl)
@[simp] theorem demote_nil {ns : List Nat} {k : Nat} : demote ns k [] = [] := (rfl)
@[simp] theorem demote_cons {ns : List Nat} {k : Nat} {x : Option (T × Nat)} {r : VEnv} : demote ns k (x :: r) = (if ns.contains k then x.map (fun p => (p.1, 0)) else x) :: demote ns (k + 1) r := (rfl)
@[simp] theorem after_two {ns : List Nat} : after ns 2 venv = venv := (rfl)
@[simp] theorem after_one {ns : List Nat} : after ns 1 venv = demote ns 0 venv := (rfl)
@[simp] theorem after_zero {ns : List Nat} : after ns 0 venv = demote ns 0 venv := (rfl)
@[simp] theorem after_nil {n : Nat} : after [] n venv = venv := by
  have : ∀ (k : Nat) (e : VEnv), demote [] k e = e := by
    intro k e
    induction e generalizing k with
    | nil => rfl
    | cons x r ih => simp [ih]
  unfold after
  split
  · rfl
  · exact this 0 venv
@[simp] theorem after_ite {ns : List Nat} {p : Prop} [Decidable p] : after ns (if p then 2 else 1) venv = if p then venv else demote ns 0 venv := by by_cases h : p <;> simp [h]
@[simp] theorem wipe_nil : wipeE env [] = env := (rfl)
@[simp] theorem wipe_one {a : Nat} : wipeE env [a] = env.set a none := (rfl)
@[simp] theorem wipe_two {a b : Nat} : wipeE env [a, b] = (env.set b none).set a none := (rfl)
@[simp] theorem bind_one {a : Nat} {t : T} : bindTg (.one a) t env = some (env.set a (some t)) := (rfl)
@[simp] theorem bind_two {a b : Nat} {t u : T} : bindTg (.many [a, b]) (.tup [t, u]) env = some ((env.set a (some t)).set b (some u)) := (rfl)
@[simp] theorem bindV_one {a : Nat} {t : T} : bindV (.one a) t venv = some (venv.set a (some (norm (t, 0)))) := (rfl)
@[simp] theorem bindV_two {a b : Nat} {t u : T} : bindV (.many [a, b]) (.tup [t, u]) venv = some ((venv.set a (some (norm (t, 0)))).set b (some (norm (u, 0)))) := (rfl)
@[simp] theorem putAll_nil : putAll [] venv = venv := (rfl)
@[simp] theorem putAll_cons {p : Nat × (T × Nat)} {r : List (Nat × (T × Nat))} : putAll (p :: r) venv = putAll r (venv.set p.1 (some (norm p.2))) := (rfl)
@[simp] theorem cmp_eq_int : cmpV .Eq (.int i) (.int j) = some (i == j) := (rfl)
@[simp] theorem cmp_ne_int : cmpV .NotEq (.int i) (.int j) = some (!(i == j)) := (rfl)
@[simp] theorem cmp_lt_int : cmpV .Lt (.int i) (.int j) = some (decide (i < j)) := (rfl)
@[simp] theorem cmp_le_int : cmpV .LtE (.int i) (.int j) = some (decide (i ≤ j)) := (rfl)
@[simp] theorem cmp_gt_int : cmpV .Gt (.int i) (.int j) = some (decide (j < i)) := (rfl)
@[simp] theorem cmp_ge_int : cmpV .GtE (.int i) (.int j) = some (decide (j ≤ i)) := (rfl)
@[simp] theorem cmp_eq_str : cmpV .Eq (.str s) (.str u) = some (decide (s = u)) := by
  simp only [cmpV]
  rw [if_pos (by simp [T.okEq, T.plain, T.deep]), eqv_str']
@[simp] theorem cmp_ne_str : cmpV .NotEq (.str s) (.str u) = some (!decide (s = u)) := by
  simp only [cmpV]
  rw [if_pos (by simp [T.okEq, T.plain, T.deep]), eqv_str']
@[simp] theorem cmp_eq_bl : cmpV .Eq (.bl b) (.bl c) = some (b == c) := (rfl)
@[simp] theorem cmp_ne_bl : cmpV .NotEq (.bl b) (.bl c) = some (!(b == c)) := (rfl)
@[simp] theorem cmp_nil_nil : cmpV .NotEq (.lst []) (.lst []) = some false := (rfl)
@[simp] theorem cmp_nil_nil' : cmpV .Eq (.lst []) (.lst []) = some true := (rfl)
@[simp] theorem cmp_in {a b : T} : cmpV .In a b = inV a b := (rfl)
@[simp] theorem cmp_nin {a b : T} : cmpV .NotIn a b = (inV a b).map not := (rfl)
@[simp] theorem cmp_is_non {a : T} : cmpV .Is a .non = some (isNonT a) := (rfl)
@[simp] theorem cmp_isn_non {a : T} : cmpV .IsNot a .non = some (!isNonT a) := (rfl)
@[simp] theorem cmp_is_bl {a : T} : cmpV .Is a (.bl b) = some (isBlT b a) := (rfl)
@[simp] theorem cmp_isn_bl {a : T} : cmpV .IsNot a (.bl b) = some (!isBlT b a) := (rfl)
@[simp] theorem isNonT_lst : isNonT (.lst ts) = false := (rfl)
@[simp] theorem isNonT_tup : isNonT (.tup ts) = false := (rfl)
@[simp] theorem isNonT_bl : isNonT (.bl b) = false := (rfl)
@[simp] theorem isNonT_int : isNonT (.int i) = false := (rfl)
@[simp] theorem isNonT_str : isNonT (.str s) = false := (rfl)
@[simp] theorem isNonT_non : isNonT .non = true := (rfl)
@[simp] theorem isBlT_bl : isBlT c (.bl b) = (b == c) := (rfl)
@[simp] theorem isBlT_lst : isBlT c (.lst ts) = false := (rfl)
@[simp] theorem isBlT_tup : isBlT c (.tup ts) = false := (rfl)
@[simp] theorem isBlT_int : isBlT c (.int i) = false := (rfl)
@[simp] theorem isBlT_str : isBlT c (.str s) = false := (rfl)
@[simp] theorem isBlT_non : isBlT c .non = false := (rfl)
@[simp] theorem add_int : binV .add (.int i) (.int j) f1 f2 = some (.int (i + j), 2) := (rfl)
@[simp] theorem sub_int : binV .sub (.int i) (.int j) f1 f2 = some (.int (i - j), 2) := (rfl)
theorem add_lst (h : ts.length + us.length ≤ 1000000) : binV .add (.lst ts) (.lst us) f1 f2 = some (.lst (ts ++ us), fl2 f1 f2) := by
  simp only [binV]
  rw [if_pos (by refine ⟨trivial, ?_⟩; unfold sizeL; omega)]
@[simp] theorem fl2_22 : fl2 2 2 = 2 := (rfl)
@[simp] theorem fl2_0 : fl2 0 f = 1 := (rfl)
@[simp] theorem fl2_1 : fl2 1 f = 1 := (rfl)
@[simp] theorem fl2_r0 : fl2 f 0 = 1 := by simp [fl2]
@[simp] theorem fl2_r1 : fl2 f 1 = 1 := by simp [fl2]
@[simp] theorem len_lst : biV .len [(.lst ts, f)] = some (.int ts.length, 2) := (rfl)
@[simp] theorem len_tup : biV .len [(.tup ts, f)] = some (.int ts.length, 2) := (rfl)
@[simp] theorem len_fro : biV .len [(.fro ts, f)] = some (.int ts.length, 2) := (rfl)
@[simp] theorem len_dic {us : List T} : biV .len [(.dic false ts us, f)] = some (.int ts.length, 2) := (rfl)
@[simp] theorem lis_lst : biV .lis [(.lst ts, f)] = some (.lst ts, if f = 2 ∨ T.flats ts = true then 2 else 1) := (rfl)
@[simp] theorem sumL_lst : biV .sumL [(.lst ts, f), (.lst [], 2)] = (listsOf ts).bind fun xs => if xs.length ≤ sizeL then some (.lst xs, if f = 2 then 2 else 1) else none := (rfl)
@[simp] theorem int1_int : biV .int1 [(.int i, f)] = some (.int i, 2) := (rfl)
@[simp] theorem max2_int : biV .max2 [(.int i, f1), (.int j, f2)] = some (.int (if j > i then j else i), 2) := (rfl)
@[simp] theorem items_lst : itemsV (.lst ts) = some ts := (rfl)
@[simp] theorem items_tup : itemsV (.tup ts) = some ts := (rfl)
@[simp] theorem idx_lst : idxV g (.lst ts) (.int i) f = (atI ts i).map fun t => (t, if f = 2 then 2 else 0) := (rfl)
@[simp] theorem idx_tup : idxV g (.tup ts) (.int i) f = (atI ts i).map fun t => (t, if f = 2 then 2 else 0) := (rfl)
@[simp] theorem idx_fro : idxV g (.fro ts) (.int i) f = (atI ts i).map fun t => (t, 0) := (rfl)
@[simp] theorem atI_c0 {α : Type} {x : α} {r : List α} : atI (x :: r) 0 = some x := by rw [atI_zero]; rfl
@[simp] theorem atI_c1 {α : Type} {x y : α} {r : List α} : atI (x :: y :: r) 1 = some y := by rw [atI_one]; rfl
theorem atI_two {α : Type} (xs : List α) : atI xs 2 = xs[2]? := atI_nat (xs := xs) (i := 2)
@[simp] theorem atI_c2 {α : Type} {x y z : α} {r : List α} : atI (x :: y :: z :: r) 2 = some z := by rw [atI_two]; rfl
@[simp] theorem isl_lst : (isTy (.lst ts) .list) = true := (rfl)
@[simp] theorem ist_tup : (isTy (.tup ts) .tuple) = true := (rfl)
@[simp] theorem isl_tup : (isTy (.tup ts) .list) = false := (rfl)
@[simp] theorem ist_lst : (isTy (.lst ts) .tuple) = false := (rfl)
@[simp] theorem isl_int : (isTy (.int i) .list) = false := (rfl)
@[simp] theorem ist_int : (isTy (.int i) .tuple) = false := (rfl)
@[simp] theorem isi_int : (isTy (.int i) .int) = true := (rfl)
@[simp] theorem isb_int : (isTy (.int i) .bool) = false := (rfl)
@[simp] theorem isl_str : (isTy (.str s) .list) = false := (rfl)
@[simp] theorem ist_str : (isTy (.str s) .tuple) = false := (rfl)
@[simp] theorem iss_str : (isTy (.str s) .str) = true := (rfl)
@[simp] theorem isi_str : (isTy (.str s) .int) = false := (rfl)
@[simp] theorem noTy_lst : noTy (.lst ts) = false := (rfl)
@[simp] theorem noTy_tup : noTy (.tup ts) = false := (rfl)
@[simp] theorem noTy_int : noTy (.int i) = false := (rfl)
@[simp] theorem noTy_str : noTy (.str s) = false := (rfl)
@[simp] theorem noTy_bl : noTy (.bl b) = false := (rfl)
@[simp] theorem noTy_non : noTy .non = false := (rfl)
@[simp] theorem truth_tup : (T.tup ts).truth = some (!ts.isEmpty) := (rfl)
@[simp] theorem truth_non : T.non.truth = some false := (rfl)
@[simp] theorem allFl_nil : allFl [] = true := (rfl)
@[simp] theorem allFl_cons {r : T × Nat} {rs : List (T × Nat)} : allFl (r :: rs) = (isFlat2 r && allFl rs) := (rfl)
@[simp] theorem isFlat2_2 {t : T} : isFlat2 (t, 2) = true := (rfl)
@[simp] theorem isFlat2_0 {t : T} : isFlat2 (t, 0) = t.flat := (rfl)
@[simp] theorem isFlat2_1 {t : T} : isFlat2 (t, 1) = t.flat := (rfl)
@[simp] theorem flat_int : (T.int i).flat = true := (rfl)
@[simp] theorem flat_str : (T.str s).flat = true := (rfl)
@[simp] theorem flat_bl : (T.bl b).flat = true := (rfl)
@[simp] theorem flat_non : T.non.flat = true := (rfl)
@[simp] theorem flat_lst : (T.lst ts).flat = false := (rfl)
@[simp] theorem flat_tup : (T.tup ts).flat = T.flats ts := (rfl)
@[simp] theorem flats_nil : T.flats [] = true := (rfl)
@[simp] theorem flats_cons {t : T} : T.flats (t :: ts) = (t.flat && T.flats ts) := (rfl)
@[simp] theorem plain_int : (T.int i).plain = true := (rfl)
@[simp] theorem plain_str : (T.str s).plain = true := (rfl)
@[simp] theorem plain_bl : (T.bl b).plain = true := (rfl)
@[simp] theorem plain_non : T.non.plain = true := (rfl)
@[simp] theorem plain_lst : (T.lst ts).plain = T.plains ts := (rfl)
@[simp] theorem plain_tup : (T.tup ts).plain = T.plains ts := (rfl)
@[simp] theorem plains_nil : T.plains [] = true := (rfl)
@[simp] theorem plains_cons {t : T} : T.plains (t :: ts) = (t.plain && T.plains ts) := (rfl)
@[simp] theorem minFl_one' {r : T × Nat} : minFl [r] = if (norm r).2 == 2 then 2 else 0 := by simp [minFl]
@[simp] theorem norm_encF {f : Fm} {n : Nat} : norm (encF f, n) = (encF f, 2) := by simp [norm, flat_encF]
@[simp] theorem getD0 {α : Type} {x d : α} {r : List α} : (x :: r).getD 0 d = x := (rfl)
end
/-- the places of a comprehension, by images -/
theorem e_comp {α : Type} {F : Call} {env : Env} {elt : E} {own : List Nat} {tg : Tg} {it : It} {cond : E} {g : List T} {e : α → T} {xs : List α} {r : α → T × Nat} {p : α → Bool}
    (hi : eIt F env it g = .ok (xs.map e) g) (h : ∀ x ∈ xs, (match bindTg tg (e x) (wipeE env own) with
      | none => Out.bad
      | some env' => (eE F env' cond g).bind fun c g => (match c.1.truth with
        | some true => (eE F env' elt g).bind fun r g => .ok (some r) g
        | some false => .ok none g
        | none => .bad)) = .ok (if p x then some (r x) else none) g) : eE F env (.comp elt own tg it cond) g = .ok (.lst ((xs.filter p).map fun x => (r x).1), if allFl ((xs.filter p).map r) then 2 else 1) g := by
  simp only [eE_def, eEs_def, eIt_def, evalE] at *
  rw [hi, Out.bind_ok, compL_some (e := e) (p := p) (r := r) h, Out.bind_ok, List.map_map]
  rfl
/-- all taken, with flag 2 -/
theorem e_comp2 {α : Type} {F : Call} {env : Env} {elt : E} {own : List Nat} {tg : Tg} {it : It} {cond : E} {g : List T} {e : α → T} {xs : List α} {r : α → T} {n : α → Nat}
    (hi : eIt F env it g = .ok (xs.map e) g) (h : ∀ x ∈ xs, (n x = 2 ∨ (r x).flat = true) ∧ (match bindTg tg (e x) (wipeE env own) with
      | none => Out.bad
      | some env' => (eE F env' cond g).bind fun c g => (match c.1.truth with
        | some true => (eE F env' elt g).bind fun r g => .ok (some r) g
        | some false => .ok none g
        | none => .bad)) = .ok (some (r x, n x)) g) : eE F env (.comp elt own tg it cond) g = .ok (.lst (xs.map r), 2) g := by
  simp only [eE_def, eEs_def, eIt_def, evalE] at *
  rw [hi, Out.bind_ok, compL_all (e := e) (r := fun x => (r x, n x)) fun x hx => (h x hx).2, Out.bind_ok, List.map_map]
  rw [allFl_map fun x hx => (h x hx).1]
  rfl
theorem e_comp0 {F : Call} {env : Env} {elt : E} {own : List Nat} {tg : Tg} {it : It} {cond : E} {g : List T} {ts : List T}
    (hi : eIt F env it g = .ok ts g) (h : ∀ t ∈ ts, (match bindTg tg t (wipeE env own) with
      | none => Out.bad
      | some env' => (eE F env' cond g).bind fun c g => (match c.1.truth with
        | some true => (eE F env' elt g).bind fun r g => .ok (some r) g
        | some false => .ok none g
        | none => .bad)) = .ok none g) : eE F env (.comp elt own tg it cond) g = .ok (.lst [], 2) g := by
  simp only [eE_def, eEs_def, eIt_def, evalE] at *
  rw [hi, Out.bind_ok, compL_none h, Out.bind_ok]
  rfl

/-! ### expressions, for simp: all but the places of lists -/
section
variable {F : Call} {env : Env} {g : List T}
@[simp] theorem x_lit {t : T} : eE F env (.lit t) g = .ok (t, 2) g := by simp only [eE_def, eEs_def, eIt_def, eS_def, eSs_def]; rfl
@[simp] theorem x_var {i : Nat} : eE F env (.var i) g = Out.of g ((env.getD i none).map fun t => (t, 0)) := by simp only [eE_def, eEs_def, eIt_def, eS_def, eSs_def]; rfl
@[simp] theorem x_tup {es : Es} : eE F env (.tup es) g = (eEs F env es g).bind fun rs g => .ok (.tup (rs.map (·.1)), if allFl rs then 2 else 0) g := by simp only [eE_def, eEs_def, eIt_def, eS_def, eSs_def]; rfl
@[simp] theorem x_lst {es : Es} : eE F env (.lst es) g = (eEs F env es g).bind fun rs g => .ok (.lst (rs.map (·.1)), if allFl rs then 2 else 1) g := by simp only [eE_def, eEs_def, eIt_def, eS_def, eSs_def]; rfl
@[simp] theorem x_bin {o : O2} {a b : E} : eE F env (.bin o a b) g = (eE F env a g).bind fun x g => (eE F env b g).bind fun y g => Out.of g (binV o x.1 y.1 x.2 y.2) := by simp only [eE_def, eEs_def, eIt_def, eS_def, eSs_def]; rfl
@[simp] theorem x_not {a : E} : eE F env (.not a) g = (eE F env a g).bind fun x g => Out.of g (x.1.truth.map fun b => (.bl (!b), 2)) := by simp only [eE_def, eEs_def, eIt_def, eS_def, eSs_def]; rfl
@[simp] theorem x_and {a b : E} : eE F env (.and a b) g = (eE F env a g).bind fun x g => (match x.1.truth with
    | some true => eE F env b g
    | some false => .ok x g
    | none => .bad) := by simp only [eE_def, eEs_def, eIt_def, eS_def, eSs_def]; rfl
@[simp] theorem x_or {a b : E} : eE F env (.or a b) g = (eE F env a g).bind fun x g => (match x.1.truth with
    | some true => .ok x g
    | some false => eE F env b g
    | none => .bad) := by simp only [eE_def, eEs_def, eIt_def, eS_def, eSs_def]; rfl
@[simp] theorem x_cmp {o : CmpOp} {a b : E} : eE F env (.cmp o a b) g = (eE F env a g).bind fun x g => (eE F env b g).bind fun y g => Out.of g ((cmpV o x.1 y.1).map fun c => (.bl c, 2)) := by simp only [eE_def, eEs_def, eIt_def, eS_def, eSs_def]; rfl
@[simp] theorem x_chain {o o' : CmpOp} {a b c : E} : eE F env (.chain o o' a b c) g = (eE F env a g).bind fun x g => (eE F env b g).bind fun y g => (match cmpV o x.1 y.1 with
    | some true => (eE F env c g).bind fun z g => Out.of g ((cmpV o' y.1 z.1).map fun c => (.bl c, 2))
    | some false => .ok (.bl false, 2) g
    | none => .bad) := by simp only [eE_def, eEs_def, eIt_def, eS_def, eSs_def]; rfl
@[simp] theorem x_ite {c a b : E} : eE F env (.ite c a b) g = (eE F env c g).bind fun x g => (match x.1.truth with
    | some true => eE F env a g
    | some false => eE F env b g
    | none => .bad) := by simp only [eE_def, eEs_def, eIt_def, eS_def, eSs_def]; rfl
@[simp] theorem x_idx {a i : E} : eE F env (.idx a i) g = (eE F env a g).bind fun x g => (eE F env i g).bind fun y g => Out.of g (idxV g x.1 y.1 x.2) := by simp only [eE_def, eEs_def, eIt_def, eS_def, eSs_def]; rfl
@[simp] theorem x_slc {a lo hi : E} : eE F env (.slc a lo hi) g = (eE F env a g).bind fun x g => (eE F env lo g).bind fun l g => (eE F env hi g).bind fun h g =>
      Out.of g ((partOf lo l.1).bind fun l => (partOf hi h.1).bind fun h => slcV x.1 l h x.2) := by simp only [eE_def, eEs_def, eIt_def, eS_def, eSs_def]; rfl
@[simp] theorem x_rev {a : E} : eE F env (.rev a) g = (eE F env a g).bind fun x g => (match x.1 with
    | .lst ts => .ok (.lst ts.reverse, if x.2 = 2 then 2 else 1) g
    | _ => .bad) := by simp only [eE_def, eEs_def, eIt_def, eS_def, eSs_def]; rfl
@[simp] theorem x_call {f : Nat} {es : Es} : eE F env (.call f es) g = (eEs F env es g).bind fun rs g => F f (rs.map (·.1)) g := by simp only [eE_def, eEs_def, eIt_def, eS_def, eSs_def]; rfl
@[simp] theorem x_callK {f j : Nat} {pm : List Nat} {es : Es} : eE F env (.callK f pm j es) g = (eEs F env es g).bind fun rs g => F f (pm.map fun i => (rs.map (·.1)).getD i .non) g := by simp only [eE_def, eEs_def, eIt_def, eS_def, eSs_def]; rfl
@[simp] theorem x_bi {b : Bi} {es : Es} : eE F env (.bi b es) g = (eEs F env es g).bind fun rs g => Out.of g (biV b rs) := by simp only [eE_def, eEs_def, eIt_def, eS_def, eSs_def]; rfl
@[simp] theorem x_isi {a : E} {tys : List Ty} : eE F env (.isi a tys) g = (eE F env a g).bind fun x g => if noTy x.1 then .bad else .ok (.bl (tys.any fun y => isTy x.1 y), 2) g := by simp only [eE_def, eEs_def, eIt_def, eS_def, eSs_def]; rfl
@[simp] theorem x_meth {m : Me} {a : E} {es : Es} : eE F env (.meth m a es) g = (eE F env a g).bind fun x g => (eEs F env es g).bind fun rs g => Out.of g (methV g m x.1 rs) := by simp only [eE_def, eEs_def, eIt_def, eS_def, eSs_def]; rfl
@[simp] theorem x_dic0 {n : Bool} : eE F env (.dic0 n) g = .ok (.dic n [] [], 1) g := by simp only [eE_def, eEs_def, eIt_def, eS_def, eSs_def]; rfl
theorem x_lrng1 {a : E} : eE F env (.lrng1 a) g = (eE F env a g).bind fun x g => (match x.1 with
    | .int i => if smallI i && decide (i.toNat ≤ sizeL) then .ok (.lst (rangeT 0 i.toNat), 2) g else .bad
    | _ => .bad) := by simp only [eE_def, eEs_def, eIt_def, eS_def, eSs_def]; rfl
@[simp] theorem xs_nil : eEs F env .nil g = .ok [] g := by simp only [eE_def, eEs_def, eIt_def, eS_def, eSs_def]; rfl
@[simp] theorem xs_cons {e : E} {es : Es} : eEs F env (.cons e es) g = (eE F env e g).bind fun x g => (eEs F env es g).bind fun xs g => .ok (x :: xs) g := by simp only [eE_def, eEs_def, eIt_def, eS_def, eSs_def]; rfl
@[simp] theorem i_seq {e : E} : eIt F env (.seq e) g = (eE F env e g).bind fun x g => Out.of g (itemsV x.1) := by simp only [eE_def, eEs_def, eIt_def, eS_def, eSs_def]; rfl
theorem i_rng1 {e : E} : eIt F env (.rng1 e) g = (eE F env e g).bind fun x g => (match x.1 with
    | .int i => if smallI i && decide (i.toNat ≤ sizeL) then .ok (rangeT 0 i.toNat) g else .bad
    | _ => .bad) := by simp only [eE_def, eEs_def, eIt_def, eS_def, eSs_def]; rfl
theorem i_rng2 {a b : E} : eIt F env (.rng2 a b) g = (eE F env a g).bind fun x g => (eE F env b g).bind fun y g => (match x.1, y.1 with
    | .int i, .int j => if smallI i && smallI j && decide ((j - i).toNat ≤ sizeL) then .ok (rangeT i (j - i).toNat) g else .bad
    | _, _ => .bad) := by simp only [eE_def, eEs_def, eIt_def, eS_def, eSs_def]; rfl
theorem i_enum {e : E} : eIt F env (.enum e) g = (eE F env e g).bind fun x g => (match x.1 with
    | .lst ts => .ok (enumT ts) g
    | _ => .bad) := by simp only [eE_def, eEs_def, eIt_def, eS_def, eSs_def]; rfl
@[simp] theorem i_zip {a b : E} : eIt F env (.zip a b) g = (eE F env a g).bind fun x g => (eE F env b g).bind fun y g => (match x.1, y.1 with
    | .lst xs, .lst ys => .ok ((xs.zip ys).map fun p => .tup [p.1, p.2]) g
    | _, _ => .bad) := by simp only [eE_def, eEs_def, eIt_def, eS_def, eSs_def]; rfl
end
end Fx
end

section
set_option Elab.async false
set_option linter.all false
set_option maxRecDepth 100000
/-! Ev4: lists of data, for simp (printed by mkev4.py). -/
namespace Fx
open PySem PySem.Spec PyProof.Rows L2 Fx.Om
section
variable {F : Call} {env : Env} {g : List T} {f f1 f2 : Nat}
abbrev tI (x : Nat) : T := .int (x : Int)
theorem atI_map {α : Type} {e : α → T} {xs : List α} {i : Nat} : atI (xs.map e) (i : Int) = (xs[i]?).map e := by rw [atI_nat, List.getElem?_map]
theorem enumT_map {α : Type} (e : α → T) (xs : List α) : enumT (xs.map e) = ((List.range xs.length).zip xs).map fun p => T.tup [.int (p.1 : Int), e p.2] := by
  unfold enumT
  rw [List.length_map, List.zip_map_right, List.map_map]
  rfl
theorem mem_enum {α : Type} {xs : List α} {p : Nat × α} (h : p ∈ (List.range xs.length).zip xs) : p.1 < xs.length ∧ xs[p.1]? = some p.2 := by
  obtain ⟨i, hi, rfl⟩ := List.mem_iff_getElem.mp h
  simp only [List.length_zip, List.length_range, Nat.min_self] at hi
  simp [hi]

@[simp] theorem norm_encI {x : List Nat} : norm (encI x, f) = (encI x, f) := (rfl)
@[simp] theorem items_encI {x : List Nat} : itemsV (encI x) = some (x.map tI) := (rfl)
@[simp] theorem len_encI {x : List Nat} : biV .len [(encI x, f)] = some (.int x.length, 2) := by
  show some (T.int ((x.map tI).length : Int), 2) = _
  rw [List.length_map]
@[simp] theorem isl_encI {x : List Nat} : isTy (encI x) .list = true := (rfl)
@[simp] theorem ist_encI {x : List Nat} : isTy (encI x) .tuple = false := (rfl)
@[simp] theorem isi_encI {x : List Nat} : isTy (encI x) .int = false := (rfl)
@[simp] theorem noTy_encI {x : List Nat} : noTy (encI x) = false := (rfl)
@[simp] theorem isNonT_encI {x : List Nat} : isNonT (encI x) = false := (rfl)
@[simp] theorem isBlT_encI {x : List Nat} {b : Bool} : isBlT b (encI x) = false := (rfl)
@[simp] theorem flat_encI {x : List Nat} : (encI x).flat = false := (rfl)
@[simp] theorem pl_encI {x : List Nat} : (encI x).plain = true := plain_encI x
@[simp] theorem truth_encI {x : List Nat} : (encI x).truth = some (!x.isEmpty) := by cases x <;> rfl
@[simp] theorem idx_encI {x : List Nat} {i : Nat} : idxV g (encI x) (.int (i : Int)) f = (x[i]?).map fun t => (tI t, if f = 2 then 2 else 0) := by
  show (atI (x.map tI) (i : Int)).map _ = _
  rw [atI_map]
  cases x[i]? <;> rfl
theorem idx0_encI {x : List Nat} : idxV g (encI x) (.int 0) f = (x[0]?).map fun t => (tI t, if f = 2 then 2 else 0) := idx_encI (i := 0)
@[simp] theorem ne_nil_encI {x : List Nat} : cmpV .NotEq (encI x) (.lst []) = some (!x.isEmpty) := by
  show cmpV .NotEq (.lst (x.map tI)) (.lst []) = _
  rw [cmp_ne_nil (plain_encI x)]
  cases x <;> rfl
@[simp] theorem eq_nil_encI {x : List Nat} : cmpV .Eq (encI x) (.lst []) = some x.isEmpty := by
  show cmpV .Eq (.lst (x.map tI)) (.lst []) = _
  rw [cmp_eq_nil (plain_encI x)]
  cases x <;> rfl
theorem add_encI {x y : List Nat} (h : x.length + y.length ≤ 1000000) : binV .add (encI x) (encI y) f1 f2 = some (encI (x ++ y), fl2 f1 f2) := by
  show binV .add (.lst (x.map tI)) (.lst (y.map tI)) f1 f2 = _
  rw [add_lst (by simpa using h), ← List.map_append]
  rfl
theorem enum_encI {x : List Nat} {a : E} {v : Nat} (h : eE F env a g = .ok (encI x, v) g) : eIt F env (.enum a) g = .ok (((List.range x.length).zip x).map fun p => T.tup [.int (p.1 : Int), tI p.2]) g := by
  rw [i_enum, h, Out.bind_ok]
  show Out.ok (enumT (x.map tI)) g = _
  rw [enumT_map]
theorem mk_encI (x : List Nat) : T.lst (x.map tI) = encI x := rfl

@[simp] theorem norm_encU {x : List (List Nat)} : norm (encU x, f) = (encU x, f) := (rfl)
@[simp] theorem items_encU {x : List (List Nat)} : itemsV (encU x) = some (x.map encI) := (rfl)
@[simp] theorem len_encU {x : List (List Nat)} : biV .len [(encU x, f)] = some (.int x.length, 2) := by
  show some (T.int ((x.map encI).length : Int), 2) = _
  rw [List.length_map]
@[simp] theorem isl_encU {x : List (List Nat)} : isTy (encU x) .list = true := (rfl)
@[simp] theorem ist_encU {x : List (List Nat)} : isTy (encU x) .tuple = false := (rfl)
@[simp] theorem isi_encU {x : List (List Nat)} : isTy (encU x) .int = false := (rfl)
@[simp] theorem noTy_encU {x : List (List Nat)} : noTy (encU x) = false := (rfl)
@[simp] theorem isNonT_encU {x : List (List Nat)} : isNonT (encU x) = false := (rfl)
@[simp] theorem isBlT_encU {x : List (List Nat)} {b : Bool} : isBlT b (encU x) = false := (rfl)
@[simp] theorem flat_encU {x : List (List Nat)} : (encU x).flat = false := (rfl)
@[simp] theorem pl_encU {x : List (List Nat)} : (encU x).plain = true := plain_encU x
@[simp] theorem truth_encU {x : List (List Nat)} : (encU x).truth = some (!x.isEmpty) := by cases x <;> rfl
@[simp] theorem idx_encU {x : List (List Nat)} {i : Nat} : idxV g (encU x) (.int (i : Int)) f = (x[i]?).map fun t => (encI t, if f = 2 then 2 else 0) := by
  show (atI (x.map encI) (i : Int)).map _ = _
  rw [atI_map]
  cases x[i]? <;> rfl
theorem idx0_encU {x : List (List Nat)} : idxV g (encU x) (.int 0) f = (x[0]?).map fun t => (encI t, if f = 2 then 2 else 0) := idx_encU (i := 0)
@[simp] theorem ne_nil_encU {x : List (List Nat)} : cmpV .NotEq (encU x) (.lst []) = some (!x.isEmpty) := by
  show cmpV .NotEq (.lst (x.map encI)) (.lst []) = _
  rw [cmp_ne_nil (plain_encU x)]
  cases x <;> rfl
@[simp] theorem eq_nil_encU {x : List (List Nat)} : cmpV .Eq (encU x) (.lst []) = some x.isEmpty := by
  show cmpV .Eq (.lst (x.map encI)) (.lst []) = _
  rw [cmp_eq_nil (plain_encU x)]
  cases x <;> rfl
theorem add_encU {x y : List (List Nat)} (h : x.length + y.length ≤ 1000000) : binV .add (encU x) (encU y) f1 f2 = some (encU (x ++ y), fl2 f1 f2) := by
  show binV .add (.lst (x.map encI)) (.lst (y.map encI)) f1 f2 = _
  rw [add_lst (by simpa using h), ← List.map_append]
  rfl
theorem enum_encU {x : List (List Nat)} {a : E} {v : Nat} (h : eE F env a g = .ok (encU x, v) g) : eIt F env (.enum a) g = .ok (((List.range x.length).zip x).map fun p => T.tup [.int (p.1 : Int), encI p.2]) g := by
  rw [i_enum, h, Out.bind_ok]
  show Out.ok (enumT (x.map encI)) g = _
  rw [enumT_map]
theorem mk_encU (x : List (List Nat)) : T.lst (x.map encI) = encU x := rfl

@[simp] theorem norm_encL {x : List (List Nat)} : norm (encL x, f) = (encL x, f) := (rfl)
@[simp] theorem items_encL {x : List (List Nat)} : itemsV (encL x) = some (x.map T.str) := (rfl)
@[simp] theorem len_encL {x : List (List Nat)} : biV .len [(encL x, f)] = some (.int x.length, 2) := by
  show some (T.int ((x.map T.str).length : Int), 2) = _
  rw [List.length_map]
@[simp] theorem isl_encL {x : List (List Nat)} : isTy (encL x) .list = true := (rfl)
@[simp] theorem ist_encL {x : List (List Nat)} : isTy (encL x) .tuple = false := (rfl)
@[simp] theorem isi_encL {x : List (List Nat)} : isTy (encL x) .int = false := (rfl)
@[simp] theorem noTy_encL {x : List (List Nat)} : noTy (encL x) = false := (rfl)
@[simp] theorem isNonT_encL {x : List (List Nat)} : isNonT (encL x) = false := (rfl)
@[simp] theorem isBlT_encL {x : List (List Nat)} {b : Bool} : isBlT b (encL x) = false := (rfl)
@[simp] theorem flat_encL {x : List (List Nat)} : (encL x).flat = false := (rfl)
@[simp] theorem pl_encL {x : List (List Nat)} : (encL x).plain = true := plain_encL x
@[simp] theorem truth_encL {x : List (List Nat)} : (encL x).truth = some (!x.isEmpty) := by cases x <;> rfl
@[simp] theorem idx_encL {x : List (List Nat)} {i : Nat} : idxV g (encL x) (.int (i : Int)) f = (x[i]?).map fun t => (T.str t, if f = 2 then 2 else 0) := by
  show (atI (x.map T.str) (i : Int)).map _ = _
  rw [atI_map]
  cases x[i]? <;> rfl
theorem idx0_encL {x : List (List Nat)} : idxV g (encL x) (.int 0) f = (x[0]?).map fun t => (T.str t, if f = 2 then 2 else 0) := idx_encL (i := 0)
@[simp] theorem ne_nil_encL {x : List (List Nat)} : cmpV .NotEq (encL x) (.lst []) = some (!x.isEmpty) := by
  show cmpV .NotEq (.lst (x.map T.str)) (.lst []) = _
  rw [cmp_ne_nil (plain_encL x)]
  cases x <;> rfl
@[simp] theorem eq_nil_encL {x : List (List Nat)} : cmpV .Eq (encL x) (.lst []) = some x.isEmpty := by
  show cmpV .Eq (.lst (x.map T.str)) (.lst []) = _
  rw [cmp_eq_nil (plain_encL x)]
  cases x <;> rfl
theorem add_encL {x y : List (List Nat)} (h : x.length + y.length ≤ 1000000) : binV .add (encL x) (encL y) f1 f2 = some (encL (x ++ y), fl2 f1 f2) := by
  show binV .add (.lst (x.map T.str)) (.lst (y.map T.str)) f1 f2 = _
  rw [add_lst (by simpa using h), ← List.map_append]
  rfl
theorem enum_encL {x : List (List Nat)} {a : E} {v : Nat} (h : eE F env a g = .ok (encL x, v) g) : eIt F env (.enum a) g = .ok (((List.range x.length).zip x).map fun p => T.tup [.int (p.1 : Int), T.str p.2]) g := by
  rw [i_enum, h, Out.bind_ok]
  show Out.ok (enumT (x.map T.str)) g = _
  rw [enumT_map]
theorem mk_encL (x : List (List Nat)) : T.lst (x.map T.str) = encL x := rfl

@[simp] theorem norm_encM {x : List (List (List Nat))} : norm (encM x, f) = (encM x, f) := (rfl)
@[simp] theorem items_encM {x : List (List (List Nat))} : itemsV (encM x) = some (x.map encL) := (rfl)
@[simp] theorem len_encM {x : List (List (List Nat))} : biV .len [(encM x, f)] = some (.int x.length, 2) := by
  show some (T.int ((x.map encL).length : Int), 2) = _
  rw [List.length_map]
@[simp] theorem isl_encM {x : List (List (List Nat))} : isTy (encM x) .list = true := (rfl)
@[simp] theorem ist_encM {x : List (List (List Nat))} : isTy (encM x) .tuple = false := (rfl)
@[simp] theorem isi_encM {x : List (List (List Nat))} : isTy (encM x) .int = false := (rfl)
@[simp] theorem noTy_encM {x : List (List (List Nat))} : noTy (encM x) = false := (rfl)
@[simp] theorem isNonT_encM {x : List (List (List Nat))} : isNonT (encM x) = false := (rfl)
@[simp] theorem isBlT_encM {x : List (List (List Nat))} {b : Bool} : isBlT b (encM x) = false := (rfl)
@[simp] theorem flat_encM {x : List (List (List Nat))} : (encM x).flat = false := (rfl)
@[simp] theorem pl_encM {x : List (List (List Nat))} : (encM x).plain = true := plain_encM x
@[simp] theorem truth_encM {x : List (List (List Nat))} : (encM x).truth = some (!x.isEmpty) := by cases x <;> rfl
@[simp] theorem idx_encM {x : List (List (List Nat))} {i : Nat} : idxV g (encM x) (.int (i : Int)) f = (x[i]?).map fun t => (encL t, if f = 2 then 2 else 0) := by
  show (atI (x.map encL) (i : Int)).map _ = _
  rw [atI_map]
  cases x[i]? <;> rfl
theorem idx0_encM {x : List (List (List Nat))} : idxV g (encM x) (.int 0) f = (x[0]?).map fun t => (encL t, if f = 2 then 2 else 0) := idx_encM (i := 0)
@[simp] theorem ne_nil_encM {x : List (List (List Nat))} : cmpV .NotEq (encM x) (.lst []) = some (!x.isEmpty) := by
  show cmpV .NotEq (.lst (x.map encL)) (.lst []) = _
  rw [cmp_ne_nil (plain_encM x)]
  cases x <;> rfl
@[simp] theorem eq_nil_encM {x : List (List (List Nat))} : cmpV .Eq (encM x) (.lst []) = some x.isEmpty := by
  show cmpV .Eq (.lst (x.map encL)) (.lst []) = _
  rw [cmp_eq_nil (plain_encM x)]
  cases x <;> rfl
theorem add_encM {x y : List (List (List Nat))} (h : x.length + y.length ≤ 1000000) : binV .add (encM x) (encM y) f1 f2 = some (encM (x ++ y), fl2 f1 f2) := by
  show binV .add (.lst (x.map encL)) (.lst (y.map encL)) f1 f2 = _
  rw [add_lst (by simpa using h), ← List.map_append]
  rfl
theorem enum_encM {x : List (List (List Nat))} {a : E} {v : Nat} (h : eE F env a g = .ok (encM x, v) g) : eIt F env (.enum a) g = .ok (((List.range x.length).zip x).map fun p => T.tup [.int (p.1 : Int), encL p.2]) g := by
  rw [i_enum, h, Out.bind_ok]
  show Out.ok (enumT (x.map encL)) g = _
  rw [enumT_map]
theorem mk_encM (x : List (List (List Nat))) : T.lst (x.map encL) = encM x := rfl

@[simp] theorem norm_encB {x : List Bool} : norm (encB x, f) = (encB x, f) := (rfl)
@[simp] theorem items_encB {x : List Bool} : itemsV (encB x) = some (x.map T.bl) := (rfl)
@[simp] theorem len_encB {x : List Bool} : biV .len [(encB x, f)] = some (.int x.length, 2) := by
  show some (T.int ((x.map T.bl).length : Int), 2) = _
  rw [List.length_map]
@[simp] theorem isl_encB {x : List Bool} : isTy (encB x) .list = true := (rfl)
@[simp] theorem ist_encB {x : List Bool} : isTy (encB x) .tuple = false := (rfl)
@[simp] theorem isi_encB {x : List Bool} : isTy (encB x) .int = false := (rfl)
@[simp] theorem noTy_encB {x : List Bool} : noTy (encB x) = false := (rfl)
@[simp] theorem isNonT_encB {x : List Bool} : isNonT (encB x) = false := (rfl)
@[simp] theorem isBlT_encB {x : List Bool} {b : Bool} : isBlT b (encB x) = false := (rfl)
@[simp] theorem flat_encB {x : List Bool} : (encB x).flat = false := (rfl)
@[simp] theorem pl_encB {x : List Bool} : (encB x).plain = true := plain_encB x
@[simp] theorem truth_encB {x : List Bool} : (encB x).truth = some (!x.isEmpty) := by cases x <;> rfl
@[simp] theorem idx_encB {x : List Bool} {i : Nat} : idxV g (encB x) (.int (i : Int)) f = (x[i]?).map fun t => (T.bl t, if f = 2 then 2 else 0) := by
  show (atI (x.map T.bl) (i : Int)).map _ = _
  rw [atI_map]
  cases x[i]? <;> rfl
theorem idx0_encB {x : List Bool} : idxV g (encB x) (.int 0) f = (x[0]?).map fun t => (T.bl t, if f = 2 then 2 else 0) := idx_encB (i := 0)
@[simp] theorem ne_nil_encB {x : List Bool} : cmpV .NotEq (encB x) (.lst []) = some (!x.isEmpty) := by
  show cmpV .NotEq (.lst (x.map T.bl)) (.lst []) = _
  rw [cmp_ne_nil (plain_encB x)]
  cases x <;> rfl
@[simp] theorem eq_nil_encB {x : List Bool} : cmpV .Eq (encB x) (.lst []) = some x.isEmpty := by
  show cmpV .Eq (.lst (x.map T.bl)) (.lst []) = _
  rw [cmp_eq_nil (plain_encB x)]
  cases x <;> rfl
theorem add_encB {x y : List Bool} (h : x.length + y.length ≤ 1000000) : binV .add (encB x) (encB y) f1 f2 = some (encB (x ++ y), fl2 f1 f2) := by
  show binV .add (.lst (x.map T.bl)) (.lst (y.map T.bl)) f1 f2 = _
  rw [add_lst (by simpa using h), ← List.map_append]
  rfl
theorem enum_encB {x : List Bool} {a : E} {v : Nat} (h : eE F env a g = .ok (encB x, v) g) : eIt F env (.enum a) g = .ok (((List.range x.length).zip x).map fun p => T.tup [.int (p.1 : Int), T.bl p.2]) g := by
  rw [i_enum, h, Out.bind_ok]
  show Out.ok (enumT (x.map T.bl)) g = _
  rw [enumT_map]
theorem mk_encB (x : List Bool) : T.lst (x.map T.bl) = encB x := rfl

@[simp] theorem in_encI {i : Nat} {xs : List Nat} : inV (.int (i : Int)) (encI xs) = some (decide (i ∈ xs)) := inV_encI i xs
@[simp] theorem in_encL {s : List Nat} {xs : List (List Nat)} : inV (.str s) (encL xs) = some (decide (s ∈ xs)) := inV_encL s xs
@[simp] theorem lis_encI {x : List Nat} : biV .lis [(encI x, f)] = some (encI x, 2) := by
  show some (T.lst _, if f = 2 ∨ T.flats (x.map tI) = true then 2 else 1) = _
  rw [if_pos (.inr (flats_map fun _ _ => rfl))]
  rfl
@[simp] theorem lis_encL {x : List (List Nat)} : biV .lis [(encL x, f)] = some (encL x, 2) := by
  show some (T.lst _, if f = 2 ∨ T.flats (x.map T.str) = true then 2 else 1) = _
  rw [if_pos (.inr (flats_map fun _ _ => rfl))]
  rfl
theorem ne_encI {x y : List Nat} : cmpV .NotEq (encI x) (encI y) = some (!decide (x = y)) := by
  rw [cmp_ne (plain_encI x) (plain_encI y) (Nat.le_trans (deep_encI x) (by decide)), eqv_encI]
theorem lrng_nat {a : E} {n v : Nat} (h : eE F env a g = .ok (.int (n : Int), v) g) (hn : n ≤ 1000000) : eE F env (.lrng1 a) g = .ok (encI (List.range n), 2) g := by
  rw [x_lrng1, h, Out.bind_ok]
  simp only [small_nat hn, Bool.true_and, Int.toNat_natCast]
  rw [if_pos (decide_eq_true (by unfold sizeL; omega)), rangeT_zero]
  rfl
theorem rng_nat {a : E} {n v : Nat} (h : eE F env a g = .ok (.int (n : Int), v) g) (hn : n ≤ 1000000) : eIt F env (.rng1 a) g = .ok ((List.range n).map tI) g := by
  rw [i_rng1, h, Out.bind_ok]
  simp only [small_nat hn, Bool.true_and, Int.toNat_natCast]
  rw [if_pos (decide_eq_true (by unfold sizeL; omega)), rangeT_zero]
/-- range(1, n) -/
theorem rng2_nat {a b : E} {n v w : Nat} (h : eE F env a g = .ok (.int 1, v) g) (h' : eE F env b g = .ok (.int (n : Int), w) g) (hn : n ≤ 1000000) : eIt F env (.rng2 a b) g = .ok ((List.range (n - 1)).map fun i => tI (i + 1)) g := by
  rw [i_rng2, h, Out.bind_ok, h', Out.bind_ok]
  have e : ((n : Int) - 1).toNat = n - 1 := by omega
  have s1 : smallI 1 = true := by decide
  simp only [small_nat hn, s1, Bool.true_and, e]
  rw [if_pos (decide_eq_true (by unfold sizeL; omega))]
  congr 1
  unfold rangeT
  apply List.map_congr_left
  intro i _
  show T.int (1 + (i : Int)) = T.int ((i + 1 : Nat) : Int)
  congr 1
  omega
@[simp] theorem norm_encO {u : List (List Nat)} {l : List (List (List Nat))} : norm (encO u l, f) = (encO u l, f) := (rfl)
@[simp] theorem idx0_encO {u : List (List Nat)} {l : List (List (List Nat))} : idxV g (encO u l) (.int 0) f = some (encU u, if f = 2 then 2 else 0) := by
  simp [encO]
@[simp] theorem idx1_encO {u : List (List Nat)} {l : List (List (List Nat))} : idxV g (encO u l) (.int 1) f = some (encM l, if f = 2 then 2 else 0) := by
  simp [encO]
@[simp] theorem bindV_encO {a b : Nat} {u : List (List Nat)} {l : List (List (List Nat))} {venv : VEnv} : bindV (.many [a, b]) (encO u l) venv = some ((venv.set a (some (encU u, 0))).set b (some (encM l, 0))) := (rfl)
@[simp] theorem isNonT_encO {u : List (List Nat)} {l : List (List (List Nat))} : isNonT (encO u l) = false := (rfl)
@[simp] theorem pl_encO {u : List (List Nat)} {l : List (List (List Nat))} : (encO u l).plain = true := by simp [encO]
theorem deep_encO (u : List (List Nat)) (l : List (List (List Nat))) : (encO u l).deep ≤ 3 := by
  have h1 := deep_encU u
  have h2 := deep_encM l
  simp only [encO, T.deep, T.deeps]
  omega
@[simp] theorem norm_encK {u : List (List Nat)} {l : List (List (List Nat))} {D : List Fm} : norm (encK u l D, f) = (encK u l D, f) := (rfl)
theorem idx_encK {u : List (List Nat)} {l : List (List (List Nat))} {D : List Fm} {h : Fm} (hd : dep h ≤ 7) (hm : h ∈ D) : idxV g (encK u l D) (encF h) f = some (encB (tv u l h), 0) := by
  show (if keyOk true (encF h) then (lookT _ _ (encF h)).map fun t => (t, 0) else none) = _
  rw [if_pos (keyOk_encF hd), look_encK, if_pos hm]
  rfl
theorem in_encK {u : List (List Nat)} {l : List (List (List Nat))} {D : List Fm} {h : Fm} (hd : dep h ≤ 7) : inV (encF h) (encK u l D) = some (decide (h ∈ D)) := by
  show (if keyOk true (encF h) then some (lookT _ _ (encF h)).isSome else none) = _
  rw [if_pos (keyOk_encF hd), look_encK]
  by_cases m : h ∈ D <;> simp [m]
theorem zip_encB {u v : List Bool} {a b : E} {n m : Nat} (ha : eE F env a g = .ok (encB u, n) g) (hb : eE F env b g = .ok (encB v, m) g) : eIt F env (.zip a b) g = .ok ((u.zip v).map fun p => T.tup [.bl p.1, .bl p.2]) g := by
  rw [i_zip, ha, Out.bind_ok, hb, Out.bind_ok]
  show Out.ok (((u.map T.bl).zip (v.map T.bl)).map _) g = _
  rw [List.zip_map, List.map_map]
  rfl
end
end Fx
end

section
set_option Elab.async false
set_option linter.all false
set_option maxRecDepth 100000
set_option maxHeartbeats 4000000
/-! Ea53: k53, each def unfolded (printed by mkuf.py). -/
namespace Fx.K53
open PySem PySem.Spec PyProof.Rows L2 Fx Fx.Om
abbrev W : Nat := 100
theorem uf0 (k : Nat) (a0 : T) (g : List T) : eF P W (k + 1) 0 [a0] g = (eSs (eF P W k) W b0 [some (a0, 0)] g).bind fin := by simp only [eF_def, eSs_def]; rfl
theorem uf1 (k : Nat) (a0 : T) (g : List T) : eF P W (k + 1) 1 [a0] g = (eSs (eF P W k) W b1 [some (a0, 0)] g).bind fin := by simp only [eF_def, eSs_def]; rfl
theorem uf2 (k : Nat) (a0 a1 : T) (g : List T) : eF P W (k + 1) 2 [a0, a1] g = (eSs (eF P W k) W b2 [some (a0, 0), some (a1, 0)] g).bind fin := by simp only [eF_def, eSs_def]; rfl
theorem uf3 (k : Nat) (a0 : T) (g : List T) : eF P W (k + 1) 3 [a0] g = (eSs (eF P W k) W b3 [some (a0, 0), none] g).bind fin := by simp only [eF_def, eSs_def]; rfl
theorem uf4 (k : Nat) (a0 : T) (g : List T) : eF P W (k + 1) 4 [a0] g = (eSs (eF P W k) W b4 [some (a0, 0)] g).bind fin := by simp only [eF_def, eSs_def]; rfl
theorem uf5 (k : Nat) (a0 : T) (g : List T) : eF P W (k + 1) 5 [a0] g = (eSs (eF P W k) W b5 [some (a0, 0)] g).bind fin := by simp only [eF_def, eSs_def]; rfl
theorem uf6 (k : Nat) (a0 : T) (g : List T) : eF P W (k + 1) 6 [a0] g = (eSs (eF P W k) W b6 [some (a0, 0), none, none, none, none, none] g).bind fin := by simp only [eF_def, eSs_def]; rfl
theorem uf7 (k : Nat) (a0 : T) (g : List T) : eF P W (k + 1) 7 [a0] g = (eSs (eF P W k) W b7 [some (a0, 0)] g).bind fin := by simp only [eF_def, eSs_def]; rfl
theorem uf8 (k : Nat) (a0 : T) (g : List T) : eF P W (k + 1) 8 [a0] g = (eSs (eF P W k) W b8 [some (a0, 0)] g).bind fin := by simp only [eF_def, eSs_def]; rfl
theorem uf9 (k : Nat) (a0 : T) (g : List T) : eF P W (k + 1) 9 [a0] g = (eSs (eF P W k) W b9 [some (a0, 0), none] g).bind fin := by simp only [eF_def, eSs_def]; rfl
theorem uf10 (k : Nat) (a0 : T) (g : List T) : eF P W (k + 1) 10 [a0] g = (eSs (eF P W k) W b10 [some (a0, 0)] g).bind fin := by simp only [eF_def, eSs_def]; rfl
theorem uf11 (k : Nat) (a0 : T) (g : List T) : eF P W (k + 1) 11 [a0] g = (eSs (eF P W k) W b11 [some (a0, 0), none, none, none] g).bind fin := by simp only [eF_def, eSs_def]; rfl
theorem uf12 (k : Nat) (a0 : T) (g : List T) : eF P W (k + 1) 12 [a0] g = (eSs (eF P W k) W b12 [some (a0, 0), none] g).bind fin := by simp only [eF_def, eSs_def]; rfl
theorem uf13 (k : Nat) (a0 a1 : T) (g : List T) : eF P W (k + 1) 13 [a0, a1] g = (eSs (eF P W k) W b13 [some (a0, 0), some (a1, 0), none] g).bind fin := by simp only [eF_def, eSs_def]; rfl
theorem uf14 (k : Nat) (a0 : T) (g : List T) : eF P W (k + 1) 14 [a0] g = (eSs (eF P W k) W b14 [some (a0, 0), none] g).bind fin := by simp only [eF_def, eSs_def]; rfl
theorem uf15 (k : Nat) (a0 a1 : T) (g : List T) : eF P W (k + 1) 15 [a0, a1] g = (eSs (eF P W k) W b15 [some (a0, 0), some (a1, 0), none, none, none, none] g).bind fin := by simp only [eF_def, eSs_def]; rfl
theorem uf16 (k : Nat) (a0 : T) (g : List T) : eF P W (k + 1) 16 [a0] g = (eSs (eF P W k) W b16 [some (a0, 0), none, none, none, none, none, none, none] g).bind fin := by simp only [eF_def, eSs_def]; rfl
theorem uf17 (k : Nat) (a0 : T) (g : List T) : eF P W (k + 1) 17 [a0] g = (eSs (eF P W k) W b17 [some (a0, 0)] g).bind fin := by simp only [eF_def, eSs_def]; rfl
theorem uf18 (k : Nat) (a0 : T) (g : List T) : eF P W (k + 1) 18 [a0] g = (eSs (eF P W k) W b18 [some (a0, 0)] g).bind fin := by simp only [eF_def, eSs_def]; rfl
theorem uf19 (k : Nat) (a0 a1 a2 : T) (g : List T) : eF P W (k + 1) 19 [a0, a1, a2] g = (eSs (eF P W k) W b19 [some (a0, 0), some (a1, 0), some (a2, 0), none, none, none, none, none, none, none, none] g).bind fin := by simp only [eF_def, eSs_def]; rfl
theorem uf20 (k : Nat) (a0 a1 : T) (g : List T) : eF P W (k + 1) 20 [a0, a1] g = (eSs (eF P W k) W b20 [some (a0, 0), some (a1, 0), none, none] g).bind fin := by simp only [eF_def, eSs_def]; rfl
theorem uf21 (k : Nat) (a0 a1 a2 : T) (g : List T) : eF P W (k + 1) 21 [a0, a1, a2] g = (eSs (eF P W k) W b21 [some (a0, 0), some (a1, 0), some (a2, 0)] g).bind fin := by simp only [eF_def, eSs_def]; rfl
theorem uf22 (k : Nat) (a0 a1 : T) (g : List T) : eF P W (k + 1) 22 [a0, a1] g = (eSs (eF P W k) W b22 [some (a0, 0), some (a1, 0), none, none] g).bind fin := by simp only [eF_def, eSs_def]; rfl
theorem uf23 (k : Nat) (a0 a1 a2 : T) (g : List T) : eF P W (k + 1) 23 [a0, a1, a2] g = (eSs (eF P W k) W b23 [some (a0, 0), some (a1, 0), some (a2, 0), none] g).bind fin := by simp only [eF_def, eSs_def]; rfl
theorem uf24 (k : Nat) (a0 a1 a2 : T) (g : List T) : eF P W (k + 1) 24 [a0, a1, a2] g = (eSs (eF P W k) W b24 [some (a0, 0), some (a1, 0), some (a2, 0)] g).bind fin := by simp only [eF_def, eSs_def]; rfl
theorem uf25 (k : Nat) (a0 a1 : T) (g : List T) : eF P W (k + 1) 25 [a0, a1] g = (eSs (eF P W k) W b25 [some (a0, 0), some (a1, 0), none, none] g).bind fin := by simp only [eF_def, eSs_def]; rfl
theorem uf26 (k : Nat) (a0 a1 : T) (g : List T) : eF P W (k + 1) 26 [a0, a1] g = (eSs (eF P W k) W b26 [some (a0, 0), some (a1, 0), none, none, none, none] g).bind fin := by simp only [eF_def, eSs_def]; rfl
theorem uf27 (k : Nat) (a0 a1 : T) (g : List T) : eF P W (k + 1) 27 [a0, a1] g = (eSs (eF P W k) W b27 [some (a0, 0), some (a1, 0)] g).bind fin := by simp only [eF_def, eSs_def]; rfl
theorem uf28 (k : Nat) (a0 a1 : T) (g : List T) : eF P W (k + 1) 28 [a0, a1] g = (eSs (eF P W k) W b28 [some (a0, 0), some (a1, 0), none, none, none, none, none, none, none] g).bind fin := by simp only [eF_def, eSs_def]; rfl
theorem uf29 (k : Nat) (a0 : T) (g : List T) : eF P W (k + 1) 29 [a0] g = (eSs (eF P W k) W b29 [some (a0, 0), none, none] g).bind fin := by simp only [eF_def, eSs_def]; rfl
theorem uf30 (k : Nat) (a0 : T) (g : List T) : eF P W (k + 1) 30 [a0] g = (eSs (eF P W k) W b30 [some (a0, 0), none, none, none, none] g).bind fin := by simp only [eF_def, eSs_def]; rfl
theorem uf31 (k : Nat) (a0 : T) (g : List T) : eF P W (k + 1) 31 [a0] g = (eSs (eF P W k) W b31 [some (a0, 0)] g).bind fin := by simp only [eF_def, eSs_def]; rfl
theorem uf32 (k : Nat) (a0 : T) (g : List T) : eF P W (k + 1) 32 [a0] g = (eSs (eF P W k) W b32 [some (a0, 0), none, none, none, none, none] g).bind fin := by simp only [eF_def, eSs_def]; rfl
theorem uf33 (k : Nat) (a0 a1 : T) (g : List T) : eF P W (k + 1) 33 [a0, a1] g = (eSs (eF P W k) W b33 [some (a0, 0), some (a1, 0), none, none, none] g).bind fin := by simp only [eF_def, eSs_def]; rfl
theorem uf34 (k : Nat) (a0 a1 : T) (g : List T) : eF P W (k + 1) 34 [a0, a1] g = (eSs (eF P W k) W b34 [some (a0, 0), some (a1, 0), none] g).bind fin := by simp only [eF_def, eSs_def]; rfl
theorem uf35 (k : Nat) (a0 a1 : T) (g : List T) : eF P W (k + 1) 35 [a0, a1] g = (eSs (eF P W k) W b35 [some (a0, 0), some (a1, 0), none, none] g).bind fin := by simp only [eF_def, eSs_def]; rfl
theorem uf36 (k : Nat) (a0 a1 : T) (g : List T) : eF P W (k + 1) 36 [a0, a1] g = (eSs (eF P W k) W b36 [some (a0, 0), some (a1, 0)] g).bind fin := by simp only [eF_def, eSs_def]; rfl
theorem uf37 (k : Nat) (a0 a1 : T) (g : List T) : eF P W (k + 1) 37 [a0, a1] g = (eSs (eF P W k) W b37 [some (a0, 0), some (a1, 0), none] g).bind fin := by simp only [eF_def, eSs_def]; rfl
theorem uf38 (k : Nat) (a0 a1 : T) (g : List T) : eF P W (k + 1) 38 [a0, a1] g = (eSs (eF P W k) W b38 [some (a0, 0), some (a1, 0)] g).bind fin := by simp only [eF_def, eSs_def]; rfl
theorem uf39 (k : Nat) (a0 a1 : T) (g : List T) : eF P W (k + 1) 39 [a0, a1] g = (eSs (eF P W k) W b39 [some (a0, 0), some (a1, 0), none] g).bind fin := by simp only [eF_def, eSs_def]; rfl
theorem uf40 (k : Nat) (a0 a1 a2 : T) (g : List T) : eF P W (k + 1) 40 [a0, a1, a2] g = (eSs (eF P W k) W b40 [some (a0, 0), some (a1, 0), some (a2, 0), none, none] g).bind fin := by simp only [eF_def, eSs_def]; rfl
theorem uf41 (k : Nat) (a0 a1 : T) (g : List T) : eF P W (k + 1) 41 [a0, a1] g = (eSs (eF P W k) W b41 [some (a0, 0), some (a1, 0), none, none, none, none, none, none, none, none] g).bind fin := by simp only [eF_def, eSs_def]; rfl
theorem uf42 (k : Nat) (a0 : T) (g : List T) : eF P W (k + 1) 42 [a0] g = (eSs (eF P W k) W b42 [some (a0, 0), none] g).bind fin := by simp only [eF_def, eSs_def]; rfl
theorem uf43 (k : Nat) (a0 : T) (g : List T) : eF P W (k + 1) 43 [a0] g = (eSs (eF P W k) W b43 [some (a0, 0), none] g).bind fin := by simp only [eF_def, eSs_def]; rfl
theorem uf44 (k : Nat) (a0 : T) (g : List T) : eF P W (k + 1) 44 [a0] g = (eSs (eF P W k) W b44 [some (a0, 0)] g).bind fin := by simp only [eF_def, eSs_def]; rfl
theorem uf45 (k : Nat) (a0 : T) (g : List T) : eF P W (k + 1) 45 [a0] g = (eSs (eF P W k) W b45 [some (a0, 0), none, none, none, none, none, none, none, none, none] g).bind fin := by simp only [eF_def, eSs_def]; rfl
theorem uf46 (k : Nat) (a0 : T) (g : List T) : eF P W (k + 1) 46 [a0] g = (eSs (eF P W k) W b46 [some (a0, 0), none, none, none] g).bind fin := by simp only [eF_def, eSs_def]; rfl
theorem uf47 (k : Nat) (a0 a1 : T) (g : List T) : eF P W (k + 1) 47 [a0, a1] g = (eSs (eF P W k) W b47 [some (a0, 0), some (a1, 0), none, none, none, none, none, none, none, none] g).bind fin := by simp only [eF_def, eSs_def]; rfl
theorem uf48 (k : Nat) (a0 : T) (g : List T) : eF P W (k + 1) 48 [a0] g = (eSs (eF P W k) W b48 [some (a0, 0), none, none] g).bind fin := by simp only [eF_def, eSs_def]; rfl
theorem uf49 (k : Nat) (a0 : T) (g : List T) : eF P W (k + 1) 49 [a0] g = (eSs (eF P W k) W b49 [some (a0, 0), none, none, none, none, none, none] g).bind fin := by simp only [eF_def, eSs_def]; rfl
theorem uf50 (k : Nat) (a0 : T) (g : List T) : eF P W (k + 1) 50 [a0] g = (eSs (eF P W k) W b50 [some (a0, 0)] g).bind fin := by simp only [eF_def, eSs_def]; rfl
theorem uf51 (k : Nat) (a0 : T) (g : List T) : eF P W (k + 1) 51 [a0] g = (eSs (eF P W k) W b51 [some (a0, 0), none, none] g).bind fin := by simp only [eF_def, eSs_def]; rfl
theorem uf52 (k : Nat) (a0 a1 : T) (g : List T) : eF P W (k + 1) 52 [a0, a1] g = (eSs (eF P W k) W b52 [some (a0, 0), some (a1, 0), none, none, none, none, none, none, none, none, none, none, none, none, none, none, none] g).bind fin := by simp only [eF_def, eSs_def]; rfl
theorem uf53 (k : Nat) (a0 : T) (g : List T) : eF P W (k + 1) 53 [a0] g = (eSs (eF P W k) W b53 [some (a0, 0), none, none, none, none, none] g).bind fin := by simp only [eF_def, eSs_def]; rfl
theorem uf54 (k : Nat) (a0 : T) (g : List T) : eF P W (k + 1) 54 [a0] g = (eSs (eF P W k) W b54 [some (a0, 0), none, none, none, none, none] g).bind fin := by simp only [eF_def, eSs_def]; rfl
def c6_0 : E := (.cmp .NotEq (.var 1) (.lst .nil))
def l6_0 : Ss := (.cons (.set 3 [1, 3] (.bin .add (.var 3) (.bi .len (.cons (.var 1) .nil)))) (.cons (.ifs [1, 2, 3, 5] (.or (.cmp .Eq (.bi .len (.cons (.var 2) .nil)) (.lit (.int 60))) (.or (.cmp .Gt (.var 3) (.lit (.int 200))) (.cmp .NotEq (.comp (.var 5) [5] (.one 5) (.seq (.var 1)) (.not (.call 4 (.cons (.var 5) .nil)))) (.lst .nil)))) (.cons (.ret [] (.lit (.non))) .nil) .nil) (.cons (.app 2 [1] (.var 1)) (.cons (.set 1 [1, 4] (.bi .sumL (.cons (.comp (.call 5 (.cons (.var 4) .nil)) [4] (.one 4) (.seq (.var 1)) (.lit (.bl true))) (.cons (.lst .nil) .nil)))) .nil))))
theorem b6_eq : b6 = (.cons (.par [1, 2, 3] [0] (.cons (.lst (.cons (.var 0) .nil)) (.cons (.lst .nil) (.cons (.lit (.int 0)) .nil)))) (.cons (.whl [1] c6_0 l6_0) (.cons (.retV 2) .nil))) := rfl
def c11_0 : E := (.cmp .NotEq (.var 2) (.lst .nil))
def l11_0 : Ss := (.cons (.pop 3 2) (.cons (.app 1 [3] (.var 3)) (.cons (.set 2 [2, 3] (.bin .add (.var 2) (.rev (.call 5 (.cons (.var 3) .nil))))) .nil)))
theorem b11_eq : b11 = (.cons (.par [1, 2] [0] (.cons (.lst .nil) (.cons (.lst (.cons (.var 0) .nil)) .nil))) (.cons (.whl [2] c11_0 l11_0) (.cons (.retV 1) .nil))) := rfl
def l15_0 : Ss := (.cons (.ifs [0, 2, 3, 4, 5] (.or (.cmp .NotIn (.var 2) (.var 3)) (.cmp .NotEq (.comp (.var 4) [4] (.one 4) (.seq (.var 3)) (.cmp .NotEq (.comp (.var 5) [5] (.one 5) (.seq (.idx (.var 0) (.var 4))) (.cmp .NotIn (.var 5) (.var 3))) (.lst .nil))) (.lst .nil))) (.cons (.ret [] (.lit (.bl false))) .nil) .nil) (.cons (.ifs [0, 2, 3, 4] (.cmp .NotEq (.comp (.var 4) [4] (.one 4) (.seq (.var 3)) (.and (.cmp .NotEq (.var 4) (.var 2)) (.cmp .In (.var 2) (.idx (.var 0) (.var 4))))) (.lst .nil)) (.cons (.ret [] (.lit (.bl false))) .nil) .nil) .nil))
theorem b15_eq : b15 = (.cons (.ifs [0, 1, 3] (.or (.cmp .NotEq (.comp (.var 3) [3] (.one 3) (.seq (.var 0)) (.not (.call 13 (.cons (.var 3) (.cons (.var 1) .nil))))) (.lst .nil)) (.cmp .NotEq (.idx (.var 0) (.lit (.int 0))) (.lrng1 (.var 1)))) (.cons (.ret [] (.lit (.bl false))) .nil) .nil) (.cons (.for_ (.many [2, 3]) [0] (.enum (.var 0)) l15_0) (.cons (.ret [] (.lit (.bl true))) .nil))) := rfl
def l16_0 : Ss := (.cons (.ifs [2, 3, 5, 7] (.cmp .NotEq (.comp (.var 7) [7] (.one 7) (.seq (.idx (.var 2) (.var 3))) (.cmp .NotIn (.var 7) (.idx (.var 2) (.var 5)))) (.lst .nil)) (.cons (.ret [] (.lit (.bl false))) .nil) .nil) .nil)
def l16_1 : Ss := (.cons (.for_ (.one 5) [4] (.seq (.var 4)) l16_0) .nil)
theorem b16_eq : b16 = (.cons (.ifs [0] (.or (.not (.isi (.var 0) [.tuple])) (.cmp .NotEq (.bi .len (.cons (.var 0) .nil)) (.lit (.int 2)))) (.cons (.ret [] (.lit (.bl false))) .nil) .nil) (.cons (.unp [1, 2] [0] (.var 0)) (.cons (.ifs [1, 2] (.or (.not (.isi (.var 1) [.list])) (.not (.isi (.var 2) [.list]))) (.cons (.ret [] (.lit (.bl false))) .nil) .nil) (.cons (.ifs [1, 2] (.or (.not (.chain .LtE .LtE (.lit (.int 1)) (.bi .len (.cons (.var 1) .nil)) (.lit (.int 60)))) (.or (.cmp .NotEq (.bi .len (.cons (.var 2) .nil)) (.bi .len (.cons (.var 1) .nil))) (.not (.call 15 (.cons (.var 1) (.cons (.bi .len (.cons (.var 1) .nil)) .nil)))))) (.cons (.ret [] (.lit (.bl false))) .nil) .nil) (.cons (.ifs [2, 6] (.cmp .NotEq (.comp (.var 6) [6] (.one 6) (.seq (.var 2)) (.not (.call 14 (.cons (.var 6) .nil)))) (.lst .nil)) (.cons (.ret [] (.lit (.bl false))) .nil) .nil) (.cons (.for_ (.many [3, 4]) [1] (.enum (.var 1)) l16_1) (.cons (.ret [] (.lit (.bl true))) .nil))))))) := rfl
def l20_0 : Ss := (.cons (.ifs [2, 3] (.cmp .NotIn (.var 3) (.var 2)) (.cons (.seti 2 [0, 2, 3] [3] (.var 3) (.call 19 (.cons (.var 0) (.cons (.var 3) (.cons (.var 2) .nil))))) .nil) .nil) .nil)
theorem b20_eq : b20 = (.cons (.set 2 [] (.dic0 true)) (.cons (.for_ (.one 3) [1] (.seq (.rev (.call 11 (.cons (.var 1) .nil)))) l20_0) (.cons (.ret [1, 2] (.idx (.var 2) (.var 1))) .nil))) := rfl
def c28_0 : E := (.lit (.bl true))
def l28_0 : Ss := (.cons (.set 3 [0, 2, 6, 7, 8] (.comp (.tup (.cons (.idx (.var 2) (.var 6)) (.cons (.bi .sortSet (.cons (.comp (.idx (.var 2) (.var 8)) [8] (.one 8) (.seq (.var 7)) (.lit (.bl true))) .nil)) .nil))) [6, 7] (.many [6, 7]) (.enum (.var 0)) (.lit (.bl true)))) (.cons (.set 4 [3, 8] (.call 29 (.cons (.comp (.bi .repr (.cons (.var 8) .nil)) [8] (.one 8) (.seq (.var 3)) (.lit (.bl true))) .nil))) (.cons (.ifs [2, 4] (.cmp .Eq (.bi .lenSet (.cons (.var 4) .nil)) (.bi .lenSet (.cons (.var 2) .nil))) (.cons (.retV 4) .nil) .nil) (.cons (.set 2 [4] (.var 4)) .nil))))
theorem b28_eq : b28 = (.cons (.set 2 [1, 5] (.call 29 (.cons (.comp (.bi .repr (.cons (.var 5) .nil)) [5] (.one 5) (.seq (.var 1)) (.lit (.bl true))) .nil))) (.cons (.whl [] c28_0 l28_0) .nil)) := rfl
def l29_0 : Ss := (.cons (.ifs [1, 2] (.cmp .NotIn (.var 2) (.var 1)) (.cons (.seti 1 [1] [2] (.var 2) (.bi .len (.cons (.var 1) .nil))) .nil) .nil) .nil)
theorem b29_eq : b29 = (.cons (.set 1 [] (.dic0 false)) (.cons (.for_ (.one 2) [0] (.seq (.var 0)) l29_0) (.cons (.ret [0, 1, 2] (.comp (.idx (.var 1) (.var 2)) [2] (.one 2) (.seq (.var 0)) (.lit (.bl true)))) .nil))) := rfl
def l35_0 : Ss := (.cons (.seti 0 [0] [] (.lit (.int 2)) (.bin .add (.idx (.var 0) (.lit (.int 2))) (.lit (.int 1)))) (.cons (.set 2 [0, 2] (.bin .add (.bin .mul (.var 2) (.lit (.int 2147483587))) (.call 34 (.cons (.idx (.var 0) (.lit (.int 1))) (.cons (.idx (.var 0) (.lit (.int 2))) .nil))))) .nil))
theorem b35_eq : b35 = (.cons (.ifs [0] (.cmp .Gt (.idx (.var 0) (.lit (.int 0))) (.lit (.int 0))) (.cons (.set 2 [0, 1] (.bin .mod (.bi .int1 (.cons (.idx (.var 0) (.lit (.int 0))) .nil)) (.var 1))) (.cons (.seti 0 [0, 1] [] (.lit (.int 0)) (.bin .fdiv (.idx (.var 0) (.lit (.int 0))) (.var 1))) (.cons (.retV 2) .nil))) .nil) (.cons (.set 2 [] (.lit (.int 0))) (.cons (.for_ (.one 3) [1] (.rng1 (.bin .add (.lit (.int 1)) (.bin .fdiv (.bi .bits (.cons (.var 1) .nil)) (.lit (.int 30))))) l35_0) (.cons (.ret [1, 2] (.bin .mod (.bi .int1 (.cons (.var 2) .nil)) (.var 1))) .nil)))) := rfl
def l45_0 : Ss := (.cons (.ifs [1, 2, 7] (.or (.not (.isi (.var 2) [.list])) (.or (.cmp .NotEq (.comp (.var 7) [7] (.one 7) (.seq (.var 2)) (.or (.not (.call 44 (.cons (.var 7) .nil))) (.not (.chain .LtE .Lt (.lit (.int 0)) (.var 7) (.var 1))))) (.lst .nil)) (.not (.call 42 (.cons (.var 2) .nil))))) (.cons (.ret [] (.lit (.bl false))) .nil) .nil) .nil)
def l45_1 : Ss := (.cons (.ifs [3, 8] (.or (.not (.isi (.var 3) [.list])) (.or (.cmp .NotEq (.comp (.var 8) [8] (.one 8) (.seq (.var 3)) (.not (.call 43 (.cons (.var 8) .nil)))) (.lst .nil)) (.not (.call 42 (.cons (.var 3) .nil))))) (.cons (.ret [] (.lit (.bl false))) .nil) .nil) .nil)
def l45_2 : Ss := (.cons (.ifs [4, 5, 6, 7, 8, 9] (.or (.and (.cmp .NotEq (.var 7) (.var 4)) (.cmp .In (.var 4) (.idx (.var 5) (.var 7)))) (.or (.cmp .NotEq (.comp (.var 9) [9] (.one 9) (.seq (.idx (.var 5) (.var 7))) (.cmp .NotIn (.var 9) (.idx (.var 5) (.var 4)))) (.lst .nil)) (.cmp .NotEq (.comp (.var 8) [8] (.one 8) (.seq (.idx (.var 6) (.var 4))) (.cmp .NotIn (.var 8) (.idx (.var 6) (.var 7)))) (.lst .nil)))) (.cons (.ret [] (.lit (.bl false))) .nil) .nil) .nil)
def l45_3 : Ss := (.cons (.ifs [4, 5] (.cmp .NotIn (.var 4) (.idx (.var 5) (.var 4))) (.cons (.ret [] (.lit (.bl false))) .nil) .nil) (.cons (.for_ (.one 7) [4, 5] (.seq (.idx (.var 5) (.var 4))) l45_2) .nil))
theorem b45_eq : b45 = (.cons (.ifs [0] (.or (.not (.isi (.var 0) [.tuple])) (.or (.cmp .NotEq (.bi .len (.cons (.var 0) .nil)) (.lit (.int 2))) (.or (.not (.isi (.idx (.var 0) (.lit (.int 0))) [.list])) (.not (.isi (.idx (.var 0) (.lit (.int 1))) [.list]))))) (.cons (.ret [] (.lit (.bl false))) .nil) .nil) (.cons (.unp [5, 6] [0] (.var 0)) (.cons (.set 1 [5] (.bi .len (.cons (.var 5) .nil))) (.cons (.ifs [1, 6] (.or (.not (.chain .LtE .LtE (.lit (.int 1)) (.var 1) (.lit (.int 60)))) (.cmp .NotEq (.bi .len (.cons (.var 6) .nil)) (.var 1))) (.cons (.ret [] (.lit (.bl false))) .nil) .nil) (.cons (.for_ (.one 2) [5] (.seq (.var 5)) l45_0) (.cons (.for_ (.one 3) [6] (.seq (.var 6)) l45_1) (.cons (.ifs [1, 5] (.cmp .NotEq (.idx (.var 5) (.lit (.int 0))) (.lrng1 (.var 1))) (.cons (.ret [] (.lit (.bl false))) .nil) .nil) (.cons (.for_ (.one 4) [1] (.rng1 (.var 1)) l45_3) (.cons (.ret [] (.lit (.bl true))) .nil))))))))) := rfl
def l46_0 : Ss := (.cons (.set 1 [1, 2, 3] (.bin .add (.var 1) (.comp (.bin .add (.var 3) (.lst (.cons (.var 2) .nil))) [3] (.one 3) (.seq (.var 1)) (.lit (.bl true))))) .nil)
theorem b46_eq : b46 = (.cons (.set 1 [] (.lst (.cons (.lst .nil) .nil))) (.cons (.for_ (.one 2) [0] (.seq (.var 0)) l46_0) (.cons (.ret [1] (.bi .sorted (.cons (.var 1) .nil))) .nil))) := rfl
def l47_0 : Ss := (.cons (.set 2 [0, 2, 3, 7, 8, 9] (.bi .sumL (.cons (.comp (.comp (.bin .add (.var 7) (.lst (.cons (.bi .sorted (.cons (.bin .add (.var 8) (.lst (.cons (.var 3) .nil))) .nil)) .nil))) [8] (.one 8) (.seq (.call 46 (.cons (.comp (.var 9) [9] (.one 9) (.rng2 (.lit (.int 1)) (.var 0)) (.cmp .NotEq (.var 9) (.var 3))) .nil))) (.lit (.bl true))) [7] (.one 7) (.seq (.var 2)) (.lit (.bl true))) (.cons (.lst .nil) .nil)))) .nil)
def l47_1 : Ss := (.cons (.set 6 [1, 6, 7, 8] (.bi .sumL (.cons (.comp (.comp (.bin .add (.var 7) (.lst (.cons (.var 8) .nil))) [8] (.one 8) (.seq (.call 46 (.cons (.var 1) .nil))) (.lit (.bl true))) [7] (.one 7) (.seq (.var 6)) (.lit (.bl true))) (.cons (.lst .nil) .nil)))) .nil)
def l47_2 : Ss := (.cons (.set 6 [] (.lst (.cons (.lst .nil) .nil))) (.cons (.for_ (.one 3) [0] (.rng1 (.var 0)) l47_1) (.cons (.set 4 [4, 5, 6, 7] (.bin .add (.var 4) (.comp (.tup (.cons (.var 5) (.cons (.var 7) .nil))) [7] (.one 7) (.seq (.bi .sorted (.cons (.var 6) .nil))) (.call 45 (.cons (.tup (.cons (.var 5) (.cons (.var 7) .nil))) .nil))))) .nil)))
theorem b47_eq : b47 = (.cons (.set 2 [0] (.lst (.cons (.lst (.cons (.lrng1 (.var 0)) .nil)) .nil))) (.cons (.for_ (.one 3) [0] (.rng2 (.lit (.int 1)) (.var 0)) l47_0) (.cons (.set 4 [] (.lst .nil)) (.cons (.for_ (.one 5) [2] (.seq (.bi .sorted (.cons (.var 2) .nil))) l47_2) (.cons (.retV 4) .nil))))) := rfl
def l48_0 : Ss := (.cons (.set 1 [1, 2] (.bin .add (.var 1) (.ite (.cmp .NotIn (.var 2) (.var 1)) (.lst (.cons (.var 2) .nil)) (.lst .nil)))) .nil)
theorem b48_eq : b48 = (.cons (.set 1 [] (.lst .nil)) (.cons (.for_ (.one 2) [0] (.seq (.var 0)) l48_0) (.cons (.ret [0, 1, 2] (.comp (.meth .index (.var 1) (.cons (.var 2) .nil)) [2] (.one 2) (.seq (.var 0)) (.lit (.bl true)))) .nil))) := rfl
def l49_0 : Ss := (.cons (.set 1 [0, 1, 4, 5, 6] (.call 48 (.cons (.comp (.bi .repr (.cons (.tup (.cons (.idx (.var 1) (.var 4)) (.cons (.bi .sortSet (.cons (.comp (.idx (.var 1) (.var 6)) [6] (.one 6) (.seq (.var 5)) (.lit (.bl true))) .nil)) .nil))) .nil)) [4, 5] (.many [4, 5]) (.enum (.idx (.var 0) (.lit (.int 0)))) (.lit (.bl true))) .nil))) .nil)
theorem b49_eq : b49 = (.cons (.set 1 [0, 3] (.call 48 (.cons (.comp (.bi .repr (.cons (.var 3) .nil)) [3] (.one 3) (.seq (.idx (.var 0) (.lit (.int 1)))) (.lit (.bl true))) .nil))) (.cons (.for_ (.one 2) [1] (.rng1 (.bi .len (.cons (.var 1) .nil))) l49_0) (.cons (.retV 1) .nil))) := rfl
def l51_0 : Ss := (.cons (.set 1 [0, 1] (.call 27 (.cons (.var 1) (.cons (.call 38 (.cons (.var 0) (.cons (.lst (.cons (.var 1) (.cons (.call 50 (.cons (.var 0) .nil)) .nil))) .nil))) .nil)))) .nil)
theorem b51_eq : b51 = (.cons (.set 1 [0] (.call 50 (.cons (.var 0) .nil))) (.cons (.for_ (.one 2) [0] (.rng1 (.call 35 (.cons (.var 0) (.cons (.lit (.int 3)) .nil)))) l51_0) (.cons (.retV 1) .nil))) := rfl
def l52_0 : Ss := (.cons (.set 9 [0] (.call 40 (.cons (.var 0) (.cons (.lst (.cons (.lit (.str [97])) (.cons (.lit (.str [98])) .nil))) (.cons (.lit (.int 3)) .nil))))) (.cons (.set 10 [1, 9] (.call 41 (.cons (.var 1) (.cons (.var 9) .nil)))) (.cons (.ifs [3, 4, 9, 10, 12, 13] (.or (.cmp .NotEq (.call 41 (.cons (.var 4) (.cons (.var 9) .nil))) (.comp (.idx (.var 10) (.idx (.var 12) (.lit (.int 0)))) [12] (.one 12) (.seq (.var 3)) (.lit (.bl true)))) (.cmp .NotEq (.comp (.var 12) [12] (.one 12) (.seq (.var 3)) (.cmp .Gt (.bi .lenSet (.cons (.comp (.idx (.var 10) (.var 13)) [13] (.one 13) (.seq (.var 12)) (.lit (.bl true))) .nil)) (.lit (.int 1)))) (.lst .nil))) (.cons (.ret [] (.lit (.bl false))) .nil) .nil) (.cons (.ifs [1, 4, 9, 10, 13, 16] (.not (.call 39 (.cons (.lst (.cons (.call 21 (.cons (.var 4) (.cons (.var 9) (.cons (.lit (.int 0)) .nil)))) (.cons (.call 24 (.cons (.lst .nil) (.cons (.var 9) (.cons (.var 4) .nil)))) (.cons (.call 22 (.cons (.var 1) (.cons (.var 9) .nil))) .nil)))) (.cons (.lst (.cons (.idx (.var 10) (.lit (.int 0))) (.cons (.not (.idx (.var 10) (.lit (.int 0)))) (.cons (.comp (.var 13) [13, 16] (.many [13, 16]) (.enum (.var 10)) (.var 16)) .nil)))) .nil)))) (.cons (.ret [] (.lit (.bl false))) .nil) .nil) .nil))))
theorem b52_eq : b52 = (.cons (.unp [7, 8] [1] (.tup (.cons (.call 49 (.cons (.var 1) .nil)) (.cons (.bi .repr (.cons (.var 1) .nil)) .nil)))) (.cons (.set 2 [7] (.bi .lenSet (.cons (.var 7) .nil))) (.cons (.set 3 [2, 7, 11, 13, 14] (.comp (.comp (.var 13) [13, 14] (.many [13, 14]) (.enum (.var 7)) (.cmp .Eq (.var 14) (.var 11))) [11] (.one 11) (.rng1 (.var 2)) (.lit (.bl true)))) (.cons (.set 4 [1] (.call 32 (.cons (.var 1) .nil))) (.cons (.set 5 [1, 3, 7, 12, 15] (.tup (.cons (.comp (.bi .sortSet (.cons (.comp (.idx (.var 7) (.var 15)) [15] (.one 15) (.seq (.idx (.idx (.var 1) (.lit (.int 0))) (.idx (.var 12) (.lit (.int 0))))) (.lit (.bl true))) .nil)) [12] (.one 12) (.seq (.var 3)) (.lit (.bl true))) (.cons (.comp (.idx (.idx (.var 1) (.lit (.int 1))) (.idx (.var 12) (.lit (.int 0)))) [12] (.one 12) (.seq (.var 3)) (.lit (.bl true))) .nil)))) (.cons (.ifs [1, 3, 4, 5] (.not (.call 39 (.cons (.lst (.cons (.call 31 (.cons (.var 1) .nil)) (.cons (.callK 31 [0] 0 (.cons (.var 1) .nil)) (.cons (.var 4) (.cons (.callK 32 [0] 1 (.cons (.var 1) .nil)) .nil))))) (.cons (.lst (.cons (.var 3) (.cons (.var 3) (.cons (.var 5) (.cons (.var 5) .nil))))) .nil)))) (.cons (.ret [] (.lit (.bl false))) .nil) .nil) (.cons (.ifs [1, 4] (.or (.not (.call 45 (.cons (.var 4) .nil))) (.or (.cmp .IsNot (.call 17 (.cons (.var 4) .nil)) (.lit (.bl true))) (.or (.not (.call 39 (.cons (.call 32 (.cons (.var 4) .nil)) (.cons (.var 4) .nil)))) (.cmp .IsNot (.call 33 (.cons (.var 1) (.cons (.var 4) .nil))) (.lit (.bl true)))))) (.cons (.ret [] (.lit (.bl false))) .nil) .nil) (.cons (.for_ (.one 6) [] (.rng1 (.lit (.int 8))) l52_0) (.cons (.appE [1] (.idx (.call 31 (.cons (.var 1) .nil)) (.lit (.int 0))) (.lit (.int 7))) (.cons (.appV 4 [0, 0] (.lit (.int 7))) (.cons (.ret [1, 3, 5, 8] (.and (.call 39 (.cons (.lst (.cons (.call 31 (.cons (.var 1) .nil)) (.cons (.call 32 (.cons (.var 1) .nil)) .nil))) (.cons (.lst (.cons (.var 3) (.cons (.var 5) .nil))) .nil))) (.cmp .Eq (.bi .repr (.cons (.var 1) .nil)) (.var 8)))) .nil))))))))))) := rfl
def l54_0 : Ss := (.cons (.cel 3 [0, 1] (.call 37 (.cons (.var 0) (.cons (.var 1) .nil)))) (.cons (.ifs [3] (.or (.not (.call 52 (.cons (.var 3) (.cons (.call 51 (.cons (.var 3) .nil)) .nil)))) (.not (.call 53 (.cons (.var 3) .nil)))) (.cons (.ret [] (.lit (.bl false))) .nil) .nil) .nil))
theorem b54_eq : b54 = (.cons (.for_ (.one 1) [] (.rng1 (.lit (.int 3))) l54_0) (.cons (.par [4, 5] [] (.cons (.tup (.cons (.lst (.cons (.lst (.cons (.lit (.int 0)) (.cons (.lit (.int 1)) .nil))) (.cons (.lst (.cons (.lit (.int 1)) .nil)) .nil))) (.cons (.lst (.cons (.lst .nil) (.cons (.lst (.cons (.lit (.str [97])) .nil)) .nil))) .nil))) (.cons (.tup (.cons (.lst (.cons (.lst (.cons (.lit (.int 0)) .nil)) .nil)) (.cons (.lst (.cons (.lst (.cons (.lit (.str [97])) .nil)) .nil)) .nil))) .nil))) (.cons (.set 2 [4, 5] (.lst (.cons (.call 31 (.cons (.call 27 (.cons (.var 5) (.cons (.var 5) .nil))) .nil)) (.cons (.call 32 (.cons (.call 27 (.cons (.var 5) (.cons (.var 5) .nil))) .nil)) (.cons (.call 33 (.cons (.var 4) (.cons (.call 27 (.cons (.var 5) (.cons (.var 5) .nil))) .nil))) (.cons (.call 33 (.cons (.var 5) (.cons (.var 4) .nil))) .nil)))))) (.cons (.ret [2, 4] (.call 39 (.cons (.var 2) (.cons (.lst (.cons (.lst (.cons (.lst (.cons (.lit (.int 0)) .nil)) (.cons (.lst (.cons (.lit (.int 1)) (.cons (.lit (.int 2)) .nil))) .nil))) (.cons (.var 4) (.cons (.lit (.bl true)) (.cons (.lit (.bl false)) .nil))))) .nil)))) .nil)))) := rfl

end Fx.K53
end

section
set_option Elab.async false
set_option linter.all false
set_option maxRecDepth 100000
set_option maxHeartbeats 4000000
/-! Eb53: k53, the small defs. -/
namespace Fx.K53
open PySem PySem.Spec PyProof.Rows L2 Fx Fx.Om
theorem ev0 (k : Nat) (i : Int) (g : List T) : eF P W (k + 1) 0 [.int i] g = .ok (.bl true, 2) g := by rw [eF_def]; rfl
theorem ev1 (k : Nat) (i : Int) (g : List T) : eF P W (k + 2) 1 [.int i] g = .ok (.bl (decide (0 ≤ i)), 2) g := by
  rw [uf1]
  simp [b1, ss_cons, ev0]
theorem ev2 (k : Nat) (i j : Int) (g : List T) : eF P W (k + 3) 2 [.int i, .int j] g = .ok (.bl (decide (0 ≤ i) && decide (i < j)), 2) g := by
  rw [uf2]
  by_cases h : 0 ≤ i <;> simp [b2, ss_cons, ev1, h]
theorem ev44 (k : Nat) (i : Int) (g : List T) : eF P W (k + 1) 44 [.int i] g = .ok (.bl true, 2) g := by rw [eF_def]; rfl
theorem ev3a (k : Nat) (g : List T) : eF P W (k + 1) 3 [.str [97]] g = .ok (.bl true, 2) g := by rw [eF_def]; rfl
theorem ev3b (k : Nat) (g : List T) : eF P W (k + 1) 3 [.str [98]] g = .ok (.bl true, 2) g := by rw [eF_def]; rfl
theorem ev43a (k : Nat) (g : List T) : eF P W (k + 1) 43 [.str [97]] g = .ok (.bl true, 2) g := by rw [eF_def]; rfl
theorem ev43b (k : Nat) (g : List T) : eF P W (k + 1) 43 [.str [98]] g = .ok (.bl true, 2) g := by rw [eF_def]; rfl
end Fx.K53
end

section
set_option Elab.async false
set_option linter.all false
set_option maxRecDepth 100000
set_option maxHeartbeats 4000000
/-! Ec53: k53, formulas. -/
namespace Fx.K53
open PySem PySem.Spec PyProof.Rows L2 Fx Fx.Om
def NAB : List (List Nat) := [[97], [98]]
theorem ev3 (k : Nat) {s : List Nat} (h : s ∈ NAB) (g : List T) : eF P W (k + 1) 3 [.str s] g = .ok (.bl true, 2) g := by
  simp only [NAB, List.mem_cons, List.not_mem_nil, or_false] at h
  rcases h with rfl | rfl
  · exact ev3a k g
  · exact ev3b k g
theorem ev4 (k : Nat) {f : Fm} (h : okF NAB f) (g : List T) : eF P W (k + 2) 4 [encF f] g = .ok (.bl true, 2) g := by
  rw [uf4]
  have hp := plain_encF f
  cases f with
  | is s =>
    have := ev3 k (s := s) h g
    simp [encF, b4, ss_cons, cmpV, ordV, T.okEq, T.plain, T.plains, T.deep, T.deeps, idxV, atI_zero, atI_one, isTy, noTy, biV, biLen, T.truth, this]
  | no =>
    simp [encF, b4, ss_cons, cmpV, ordV, T.okEq, T.plain, T.plains, T.deep, T.deeps, idxV, atI_zero, atI_one, isTy, noTy, biV, biLen, T.truth]
  | and f g =>
    simp only [encF, T.plain, T.plains, Bool.and_true, Bool.true_and, Bool.and_eq_true] at hp
    simp [encF, b4, ss_cons, cmpV, ordV, T.okEq, T.plain, T.plains, T.deep, T.deeps, idxV, atI_zero, atI_one, isTy, noTy, biV, biLen, T.truth, hp, inV, T.okEqs]
  | or f g =>
    simp only [encF, T.plain, T.plains, Bool.and_true, Bool.true_and, Bool.and_eq_true] at hp
    simp [encF, b4, ss_cons, cmpV, ordV, T.okEq, T.plain, T.plains, T.deep, T.deeps, idxV, atI_zero, atI_one, isTy, noTy, biV, biLen, T.truth, hp, inV, T.okEqs]
  | thn f g =>
    simp only [encF, T.plain, T.plains, Bool.and_true, Bool.true_and, Bool.and_eq_true] at hp
    simp [encF, b4, ss_cons, cmpV, ordV, T.okEq, T.plain, T.plains, T.deep, T.deeps, idxV, atI_zero, atI_one, isTy, noTy, biV, biLen, T.truth, hp, inV, T.okEqs]
theorem ev5 (k : Nat) (f : Fm) (g : List T) : eF P W (k + 1) 5 [encF f] g = .ok (.lst ((kids f).map encF), 2) g := by
  rw [uf5]
  have hp := plain_encF f
  have hf := flat_encF f
  cases f with
  | is s =>
    simp [encF, b5, ss_cons, cmpV, T.okEqs, T.plain, T.plains, T.deep, T.deeps, idxV, atI_zero, inV, kids, allFl]
  | no =>
    simp [encF, b5, ss_cons, cmpV, T.okEqs, T.plain, T.plains, T.deep, T.deeps, idxV, atI_zero, inV, kids, allFl]
  | and f g =>
    simp only [encF, T.flat, T.flats, Bool.and_true, Bool.true_and, Bool.and_eq_true] at hf
    simp [encF, b5, ss_cons, cmpV, T.okEqs, T.plain, T.plains, T.deep, T.deeps, idxV, atI_zero, inV, kids, allFl, partOf, isNonE, slcV, cutN, cutT, biV, biLis, T.flats, hf]
  | or f g =>
    simp only [encF, T.flat, T.flats, Bool.and_true, Bool.true_and, Bool.and_eq_true] at hf
    simp [encF, b5, ss_cons, cmpV, T.okEqs, T.plain, T.plains, T.deep, T.deeps, idxV, atI_zero, inV, kids, allFl, partOf, isNonE, slcV, cutN, cutT, biV, biLis, T.flats, hf]
  | thn f g =>
    simp only [encF, T.flat, T.flats, Bool.and_true, Bool.true_and, Bool.and_eq_true] at hf
    simp [encF, b5, ss_cons, cmpV, T.okEqs, T.plain, T.plains, T.deep, T.deeps, idxV, atI_zero, inV, kids, allFl, partOf, isNonE, slcV, cutN, cutT, biV, biLis, T.flats, hf]
theorem listsOf_map {α : Type} (e : α → List T) : ∀ xs : List α, listsOf (xs.map fun x => T.lst (e x)) = some (xs.flatMap e)
  | [] => rfl
  | x :: xs => by simp [listsOf, listsOf_map e xs]
theorem levels_loop (k : Nat) (g : List T) (v : Option (T × Nat)) : ∀ (n : Nat) (L : List Fm) (told : List T) (s f1 f2 f3 : Nat), n > tsz L → (∀ x ∈ L, okF NAB x) → told.length + tsz L ≤ 50 → s + tsz L ≤ 150 → f2 ≠ 0 →
    ∃ (env : VEnv) (told' : List T) (f : Nat), whlL n (tst (eF P W (k + 2)) [1] c6_0) (eSs (eF P W (k + 2)) W l6_0) [v, some (.lst (L.map encF), f1), some (.lst told, f2), some (.int s, f3), none, none] g = .ok (.nx env) g ∧ env.getD 2 none = some (.lst told', f)
  | 0, _, _, _, _, _, _, h, _, _, _, _ => absurd h (Nat.not_lt_zero _)
  | n + 1, L, told, s, f1, f2, f3, hn, hL, hd, hs, hf => by
    by_cases e : L = []
    · subst e
      refine ⟨[v, some (.lst [], f1), some (.lst told, f2), some (.int s, f3), none, none], told, f2, ?_, rfl⟩
      exact whl_stop (by simp [tst, c6_0])
    · have hpos := tsz_pos e
      have hnx := tsz_next L
      have hl : 0 < L.length := by cases L with
        | nil => exact absurd rfl e
        | cons => simp
      have pl : T.plains (L.map encF) = true := plains_map fun x _ => plain_encF x
      have ne : (L.map encF).isEmpty = false := by cases L with
        | nil => exact absurd rfl e
        | cons => rfl
      obtain ⟨env, told', f, e1, e2⟩ := levels_loop k g v n (L.flatMap kids) (told ++ [.lst (L.map encF)]) (s + L.length) 2 1 2 (by omega) (fun x hx => by
        obtain ⟨y, hy, hx⟩ := List.mem_flatMap.mp hx
        exact okF_kids (hL y hy) x hx) (by simp; omega) (by omega) (by decide)
      refine ⟨env, told', f, ?_, e2⟩
      rw [← e1]
      refine whl_go ?_ ?_
      · simp [tst, c6_0, cmp_ne_nil, pl, ne]
      · have q1 : ((told.length : Int) == 60) = false := beq_eq_false_iff_ne.mpr (by omega)
        have q2 : ¬ (200 < ((s : Int) + (L.length : Int))) := by omega
        have hc : ∀ venv : Env, venv[1]? = some (some (.lst (L.map encF))) → 5 < venv.length → eE (eF P W (k + 2)) venv (.comp (.var 5) [5] (.one 5) (.seq (.var 1)) (.not (.call 4 (.cons (.var 5) .nil)))) g = .ok (.lst [], 2) g := by
          intro venv hv hl
          refine e_comp0 (ts := L.map encF) (by simp [hv]) fun t ht => ?_
          obtain ⟨x, hx, rfl⟩ := List.mem_map.mp ht
          simp [hl, ev4 k (hL x hx) g]
        have hd' : eE (eF P W (k + 2)) [none, some (T.lst (List.map encF L)), none, none, none, none] (.comp (.call 5 (.cons (.var 4) .nil)) [4] (.one 4) (.seq (.var 1)) (.lit (.bl true))) g = .ok (.lst (L.map fun x => .lst ((kids x).map encF)), 2) g :=
          e_comp2 (e := encF) (n := fun _ => 2) (by simp) fun x hx => ⟨.inl rfl, by simp [ev5 (k + 1) x g]⟩
        have e4 : ((L.flatMap kids).map encF).length ≤ sizeL := by
          rw [List.length_map]
          have : (L.flatMap kids).length ≤ tsz (L.flatMap kids) := by
            have := tsz_next (L.flatMap kids)
            omega
          unfold sizeL
          omega
        rw [l6_0, ss_nx (env' := [v, some (.lst (L.map encF), f1), some (.lst told, f2), some (.int ((s + L.length : Nat) : Int), 2), none, none]) (g' := g) (by simp),
          ss_nx (env' := [v, some (.lst (L.map encF), f1), some (.lst told, f2), some (.int ((s + L.length : Nat) : Int), 2), none, none]) (g' := g) (by simp [q1, q2, hc]),
          ss_nx (env' := [v, some (.lst (L.map encF), 0), some (.lst (told ++ [.lst (L.map encF)]), 1), some (.int ((s + L.length : Nat) : Int), 2), none, none]) (g' := g) (by simp; omega),
          ss_nx (env' := [v, some (.lst ((L.flatMap kids).map encF), 2), some (.lst (told ++ [.lst (L.map encF)]), 1), some (.int ((s + L.length : Nat) : Int), 2), none, none]) (g' := g) (by simp [hd', listsOf_map, List.map_flatMap] at e4 ⊢; simp [e4])]
        exact ss_nil
theorem ev6 (k : Nat) {f : Fm} (h : okF NAB f) (hs : siz f ≤ 40) (g : List T) : ∃ ts fl, eF P W (k + 3) 6 [encF f] g = .ok (.lst ts, fl) g := by
  have e1 : tsz [f] = siz f := by simp [tsz]
  obtain ⟨env, told, fl, h1, h2⟩ := levels_loop k g (some (encF f, 0)) W [f] [] 0 2 2 2 (by rw [e1]; unfold W; omega) (fun x hx => by rw [List.mem_singleton.mp hx]; exact h) (by rw [e1]; simp; omega) (by omega) (by decide)
  refine ⟨told, fl, ?_⟩
  rw [uf6, b6_eq, ss_nx (env' := [some (encF f, 0), some (.lst ([f].map encF), 2), some (.lst [], 2), some (.int 0, 2), none, none]) (g' := g) (by simp [minFl, flat_encF]), ss_nx (env' := env) (g' := g) (by simpa using h1)]
  rw [List.getD_eq_getElem?_getD] at h2
  simp [ss_cons, h2]
theorem ev7 (k : Nat) {f : Fm} (h : okF NAB f) (hs : siz f ≤ 40) (g : List T) : eF P W (k + 4) 7 [encF f] g = .ok (.bl true, 2) g := by
  obtain ⟨ts, fl, e⟩ := ev6 k h hs g
  rw [uf7]
  simp [b7, ss_cons, e]
theorem ev8 (k : Nat) {f : Fm} (h : okF NAB f) (hs : siz f ≤ 40) (g : List T) : eF P W (k + 5) 8 [encF f] g = .ok (.non, 2) g := by
  rw [uf8]
  simp [b8, ss_cons, ev7 k h hs g]
theorem ev9 (k : Nat) (g : List T) : eF P W (k + 1) 9 [.lst []] g = .ok (.bl true, 2) g := by rw [eF_def]; rfl
theorem ev10 (k : Nat) (g : List T) : eF P W (k + 2) 10 [.lst []] g = .ok (.non, 2) g := by rw [eF_def]; rfl
end Fx.K53
end

section
set_option Elab.async false
set_option linter.all false
set_option maxRecDepth 100000
set_option maxHeartbeats 4000000
/-! Ed53: k53, parts of a formula; what an order is. -/
namespace Fx.K53
open PySem PySem.Spec PyProof.Rows L2 Fx Fx.Om
theorem parts_loop (k : Nat) (g : List T) (v : Option (T × Nat)) : ∀ (n : Nat) (S don : List Fm) (f1 f2 : Nat) (x : Option (T × Nat)), n > tsz S → don.length + tsz S ≤ 50 → f1 ≠ 0 → f2 ≠ 0 →
    ∃ (f : Nat) (x' : Option (T × Nat)), whlL n (tst (eF P W (k + 1)) [2] c11_0) (eSs (eF P W (k + 1)) W l11_0) [v, some (.lst (don.map encF), 2), some (.lst (S.reverse.map encF), f2), x] g = .ok (.nx [v, some (.lst ((don ++ S.flatMap parts).map encF), 2), some (.lst [], f), x']) g
  | 0, _, _, _, _, _, h, _, _, _ => absurd h (Nat.not_lt_zero _)
  | n + 1, [], don, f1, f2, x, hn, hd, h1, h2 => by
    refine ⟨f2, x, ?_⟩
    simp only [List.reverse_nil, List.map_nil, List.flatMap_nil, List.append_nil]
    exact whl_stop (by simp [tst, c11_0])
  | n + 1, p :: S, don, f1, f2, x, hn, hd, h1, h2 => by
    have e2 : tsz (kids p) + 1 = siz p := by cases p <;> simp [tsz, kids, siz]
    have e3 : tsz (p :: S) = siz p + tsz S := by simp [tsz]
    have e4 : tsz (kids p ++ S) = tsz (kids p) + tsz S := by simp [tsz]
    obtain ⟨f, x', e⟩ := parts_loop k g v n (kids p ++ S) (don ++ [p]) 2 1 (some (encF p, 0)) (by omega) (by simp; omega) (by decide) (by decide)
    refine ⟨f, x', ?_⟩
    have e5 : don ++ (p :: S).flatMap parts = don ++ [p] ++ (kids p ++ S).flatMap parts := by
      rw [List.flatMap_cons, parts_kids]
      simp
    rw [e5, ← e]
    have pl : T.plains ((p :: S).reverse.map encF) = true := plains_map fun x _ => plain_encF x
    have len1 : S.length ≤ tsz S := by
      have := tsz_next S
      omega
    have len2 : (kids p).length ≤ 2 := by cases p <;> simp [kids]
    refine whl_go ?_ ?_
    · simp only [tst, c11_0, x_cmp, x_var, x_lst, xs_nil, only_cons, only_nil]
      simp [cmp_ne_nil, pl]
      simp only [List.reverse_cons, List.map_append] at pl
      rw [cmp_ne_nil (by simpa using pl)]
      simp
    · rw [l11_0, ss_nx (env' := [v, some (.lst (don.map encF), 2), some (.lst (S.reverse.map encF), 1), some (encF p, 2)]) (g' := g) (by simp [h2]),
        ss_nx (env' := [v, some (.lst ((don ++ [p]).map encF), 2), some (.lst (S.reverse.map encF), 1), some (encF p, 2)]) (g' := g) (by simp; omega),
        ss_nx (env' := [v, some (.lst ((don ++ [p]).map encF), 2), some (.lst ((kids p ++ S).reverse.map encF), 1), some (encF p, 0)]) (g' := g) (by
          simp [ev5]
          rw [add_lst (by simp; omega)]
          simp)]
      exact ss_nil
theorem ev11 (k : Nat) (f : Fm) (hs : siz f ≤ 40) (g : List T) : eF P W (k + 2) 11 [encF f] g = .ok (.lst ((parts f).map encF), 2) g := by
  have e1 : tsz [f] = siz f := by simp [tsz]
  obtain ⟨fl, x', h1⟩ := parts_loop k g (some (encF f, 0)) W [f] [] 2 2 none (by rw [e1]; unfold W; omega) (by rw [e1]; simp; omega) (by decide) (by decide)
  rw [uf11, b11_eq, ss_nx (env' := [some (encF f, 0), some (.lst [], 2), some (.lst ([f].map encF), 2), none]) (g' := g) (by simp [minFl, flat_encF]), ss_nx (env' := _) (g' := g) (by simpa using h1)]
  simp [ss_cons]
end Fx.K53
end

section
set_option Elab.async false
set_option linter.all false
set_option maxRecDepth 100000
set_option maxHeartbeats 4000000
/-! Ee53: k53, what an order is. -/
namespace Fx.K53
open PySem PySem.Spec PyProof.Rows L2 Fx Fx.Om
def NmAB (l : List (List Nat)) : Prop := l = [] ∨ l = [[97]] ∨ l = [[97], [98]] ∨ l = [[98]]
theorem up_get {ups : List (List Nat)} {x : Nat} (h : x < ups.length) : ∃ v, ups[x]? = some v ∧ upAt ups x = v := ⟨ups[x], List.getElem?_eq_getElem h, upAt_eq h⟩
theorem let_get {l : List (List (List Nat))} {x : Nat} (h : x < l.length) : ∃ v, l[x]? = some v ∧ letAt l x = v := ⟨l[x], List.getElem?_eq_getElem h, letAt_eq h⟩
theorem rise_get {u : List Nat} (h : Rise u) {i : Nat} (hi : i + 1 < u.length) : u[i]'(by omega) < u[i + 1] := (List.pairwise_iff_getElem.mp h) i (i + 1) (by omega) hi (by omega)
theorem ev12 (k : Nat) {u : List Nat} (h : Rise u) (hl : u.length ≤ 1000) (g : List T) : eF P W (k + 1) 12 [encI u] g = .ok (.bl true, 2) g := by
  rw [uf12]
  have hc : eE (eF P W k) [some (encI u), none] (.comp (.var 1) [1] (.one 1) (.rng2 (.lit (.int 1)) (.bi .len (.cons (.var 0) .nil))) (.cmp .GtE (.idx (.var 0) (.bin .sub (.var 1) (.lit (.int 1)))) (.idx (.var 0) (.var 1)))) g = .ok (.lst [], 2) g := by
    refine e_comp0 (rng2_nat (n := u.length) (v := 2) (w := 2) (by simp) (by simp) (by omega)) fun t ht => ?_
    obtain ⟨i, hi, rfl⟩ := List.mem_map.mp ht
    have hi : i + 1 < u.length := by have := List.mem_range.mp hi; omega
    have e1 : ((i + 1 : Nat) : Int) - 1 = ((i : Nat) : Int) := by omega
    have r := rise_get h hi
    have e2 : ¬ (u[i + 1] ≤ u[i]'(by omega)) := by omega
    simp only [bind_one, wipe_one, x_cmp, x_idx, x_var, x_bin, x_lit]
    simp only [List.set_cons_succ, List.set_cons_zero, List.getD_eq_getElem?_getD, List.getElem?_cons_succ, List.getElem?_cons_zero, Option.getD_some, Option.map_some, Out.of_some, Out.bind_ok, sub_int, e1, idx_encI]
    rw [List.getElem?_eq_getElem (by omega), List.getElem?_eq_getElem hi]
    simp [e2]
  simp [b12, ss_cons, hc]
theorem names_ab {l : List (List Nat)} (h : NmAB l) : ∀ s ∈ l, s ∈ NAB := by
  rcases h with rfl | rfl | rfl | rfl <;> simp [NAB]
theorem ev12L (k : Nat) {l : List (List Nat)} (h : NmAB l) (g : List T) : eF P W (k + 1) 12 [encL l] g = .ok (.bl true, 2) g := by
  rw [uf12]
  have hc : eE (eF P W k) [some (encL l), none] (.comp (.var 1) [1] (.one 1) (.rng2 (.lit (.int 1)) (.bi .len (.cons (.var 0) .nil))) (.cmp .GtE (.idx (.var 0) (.bin .sub (.var 1) (.lit (.int 1)))) (.idx (.var 0) (.var 1)))) g = .ok (.lst [], 2) g := by
    have hl : l.length ≤ 2 := by rcases h with rfl | rfl | rfl | rfl <;> simp
    refine e_comp0 (rng2_nat (n := l.length) (v := 2) (w := 2) (by simp) (by simp) (by omega)) fun t ht => ?_
    obtain ⟨i, hi, rfl⟩ := List.mem_map.mp ht
    have hi : i + 1 < l.length := by have := List.mem_range.mp hi; omega
    have e1 : ((i + 1 : Nat) : Int) - 1 = ((i : Nat) : Int) := by omega
    have r : cmpV .GtE (.str (l[i]'(by omega))) (.str l[i + 1]) = some false := by
      have i0 : i = 0 := by omega
      subst i0
      rcases h with rfl | rfl | rfl | rfl
      · simp at hi
      · simp at hi
      · rfl
      · simp at hi
    simp only [bind_one, wipe_one, x_cmp, x_idx, x_var, x_bin, x_lit]
    simp only [List.set_cons_succ, List.set_cons_zero, List.getD_eq_getElem?_getD, List.getElem?_cons_succ, List.getElem?_cons_zero, Option.getD_some, Option.map_some, Out.of_some, Out.bind_ok, sub_int, e1, idx_encL]
    rw [List.getElem?_eq_getElem (by omega), List.getElem?_eq_getElem hi]
    simp [r]
  simp [b12, ss_cons, hc]
theorem ev14 (k : Nat) {l : List (List Nat)} (h : NmAB l) (g : List T) : eF P W (k + 2) 14 [encL l] g = .ok (.bl true, 2) g := by
  rw [uf14]
  have hc : eE (eF P W (k + 1)) [some (encL l), none] (.comp (.var 1) [1] (.one 1) (.seq (.var 0)) (.not (.call 3 (.cons (.var 1) .nil)))) g = .ok (.lst [], 2) g := by
    refine e_comp0 (ts := l.map T.str) (by simp) fun t ht => ?_
    obtain ⟨x, hx, rfl⟩ := List.mem_map.mp ht
    simp [ev3 k (names_ab h x hx) g]
  simp [b14, ss_cons, hc, ev12L k h g]
theorem ev13 (k : Nat) {u : List Nat} {n : Nat} (h : Rise u) (hn : ∀ x ∈ u, x < n) (hl : u.length ≤ 1000) (g : List T) : eF P W (k + 4) 13 [encI u, .int (n : Int)] g = .ok (.bl true, 2) g := by
  rw [uf13]
  have hc : eE (eF P W (k + 3)) [some (encI u), some (.int (n : Int)), none] (.comp (.var 2) [2] (.one 2) (.seq (.var 0)) (.not (.call 2 (.cons (.var 2) (.cons (.var 1) .nil))))) g = .ok (.lst [], 2) g := by
    refine e_comp0 (ts := u.map tI) (by simp) fun t ht => ?_
    obtain ⟨x, hx, rfl⟩ := List.mem_map.mp ht
    have := hn x hx
    simp [ev2, this]
  simp [b13, ss_cons, hc, ev12 (k + 2) h hl g]
theorem ev15 (k : Nat) {ups : List (List Nat)} {lets : List (List (List Nat))} (h : WF NmAB ups lets) (hl : ups.length ≤ 60) (g : List T) : eF P W (k + 5) 15 [encU ups, .int (ups.length : Int)] g = .ok (.bl true, 2) g := by
  rw [uf15, b15_eq]
  have hlen : ∀ u ∈ ups, u.length ≤ 1000 := fun u hu => by
    have := nodup_sub_length (ys := List.range ups.length) (rise_nodup (h.rise u hu)) fun a ha => List.mem_range.mpr (h.lt u hu a ha)
    rw [List.length_range] at this
    omega
  have hc : eE (eF P W (k + 4)) [some (encU ups), some (.int (ups.length : Int)), none, none, none, none] (.comp (.var 3) [3] (.one 3) (.seq (.var 0)) (.not (.call 13 (.cons (.var 3) (.cons (.var 1) .nil))))) g = .ok (.lst [], 2) g := by
    refine e_comp0 (ts := ups.map encI) (by simp) fun t ht => ?_
    obtain ⟨u, hu, rfl⟩ := List.mem_map.mp ht
    simp [ev13 k (h.rise u hu) (h.lt u hu) (hlen u hu) g]
  have hr : eE (eF P W (k + 4)) [some (encU ups), some (.int (ups.length : Int)), none, none, none, none] (.lrng1 (.var 1)) g = .ok (encI (List.range ups.length), 2) g := lrng_nat (v := 0) (by simp) (by omega)
  have h0 : ups[0]? = some (List.range ups.length) := by
    rw [List.getElem?_eq_getElem h.pos, ← upAt_eq h.pos, h.root]
  rw [ss_nx (env' := [some (encU ups, 0), some (.int (ups.length : Int), 0), none, none, none, none]) (g' := g) (by simp [hc, hr, idx0_encU, h0, ne_encI])]
  have loop := forL_find (b := turnF (eF P W (k + 4)) W (.many [2, 3]) l15_0) (e := fun p : Nat × List Nat => T.tup [.int (p.1 : Int), encI p.2]) (p := fun _ => true) (r := (.non, 0)) (g := g)
    (I := fun env => ∃ a b f, env = [some (encU ups, 0), some (.int (ups.length : Int), f), a, b, none, none]) ((List.range ups.length).zip ups) [some (encU ups, 0), some (.int (ups.length : Int), 0), none, none, none, none] ⟨_, _, _, rfl⟩ (fun p hp env he => ⟨fun _ => ?_, fun z => by cases z⟩)
  · obtain ⟨env', e1, a, b, f, rfl⟩ := loop.1 (List.all_eq_true.mpr fun _ _ => rfl)
    rw [ss_nx (env' := _) (g' := g) (by
      rw [s_for, enum_encU (x := ups) (v := 0) (by simp), Out.bind_ok]
      simpa using e1)]
    simp [ss_cons]
  · obtain ⟨a, b, f, rfl⟩ := he
    obtain ⟨w, u⟩ := p
    obtain ⟨hw, hu⟩ := mem_enum hp
    simp only at hw hu
    have eu : upAt ups w = u := by
      rw [upAt_eq hw]
      rw [List.getElem?_eq_getElem hw] at hu
      exact Option.some.inj hu
    have um : u ∈ ups := by rw [← eu]; exact upAt_mem hw
    have c1 : ∀ x ∈ u, eE (eF P W (k + 4)) [some (encU ups), none, some (.int (w : Int)), some (encI u), some (tI x), none] (.comp (.var 5) [5] (.one 5) (.seq (.idx (.var 0) (.var 4))) (.cmp .NotIn (.var 5) (.var 3))) g = .ok (.lst [], 2) g := fun x hx => by
      have hx' := h.lt u um x hx
      obtain ⟨v, gx, ev⟩ := up_get hx'
      refine e_comp0 (ts := v.map tI) (by simp [gx]) fun t ht => ?_
      obtain ⟨y, hy, rfl⟩ := List.mem_map.mp ht
      have := h.trans w hw x (by rw [eu]; exact hx) y (by rw [ev]; exact hy)
      rw [eu] at this
      simp [this]
    have c2 : eE (eF P W (k + 4)) [some (encU ups), none, some (.int (w : Int)), some (encI u), none, none] (.comp (.var 4) [4] (.one 4) (.seq (.var 3)) (.cmp .NotEq (.comp (.var 5) [5] (.one 5) (.seq (.idx (.var 0) (.var 4))) (.cmp .NotIn (.var 5) (.var 3))) (.lst .nil))) g = .ok (.lst [], 2) g := by
      refine e_comp0 (ts := u.map tI) (by simp) fun t ht => ?_
      obtain ⟨x, hx, rfl⟩ := List.mem_map.mp ht
      simp [c1 x hx]
    have c3 : eE (eF P W (k + 4)) [some (encU ups), none, some (.int (w : Int)), some (encI u), none, none] (.comp (.var 4) [4] (.one 4) (.seq (.var 3)) (.and (.cmp .NotEq (.var 4) (.var 2)) (.cmp .In (.var 2) (.idx (.var 0) (.var 4))))) g = .ok (.lst [], 2) g := by
      refine e_comp0 (ts := u.map tI) (by simp) fun t ht => ?_
      obtain ⟨x, hx, rfl⟩ := List.mem_map.mp ht
      have hx' := h.lt u um x hx
      obtain ⟨v, gx, ev⟩ := up_get hx'
      by_cases e : x = w
      · subst e
        simp
      · have e' : ((x : Int) == (w : Int)) = false := beq_eq_false_iff_ne.mpr (by omega)
        have nin : w ∉ v := fun m => e (h.anti w hw x (by rw [eu]; exact hx) (by rw [ev]; exact m)).symm
        simp [e', gx, nin]
    have self : w ∈ u := by
      have := h.refl w hw
      rwa [eu] at this
    refine ⟨[some (encU ups, 0), some (.int (ups.length : Int), f), some (.int (w : Int), 2), some (encI u, 0), none, none], ?_, _, _, _, rfl⟩
    simp only [turnF, bindV_two]
    simp only [l15_0, ss_cons]
    simp [c2, c3, self]
theorem ev16 (k : Nat) {ups : List (List Nat)} {lets : List (List (List Nat))} (h : WF NmAB ups lets) (hl : ups.length ≤ 60) (g : List T) : eF P W (k + 6) 16 [encO ups lets] g = .ok (.bl true, 2) g := by
  rw [uf16, b16_eq, encO]
  have p1 := h.pos
  have p2 := h.ll
  have q1 : (1 : Int) ≤ (ups.length : Int) := by omega
  have q2 : (ups.length : Int) ≤ 60 := by omega
  have q3 : ((lets.length : Int) == (ups.length : Int)) = true := by rw [p2]; simp
  have hc : eE (eF P W (k + 5)) [none, none, some (encM lets), none, none, none, none, none] (.comp (.var 6) [6] (.one 6) (.seq (.var 2)) (.not (.call 14 (.cons (.var 6) .nil)))) g = .ok (.lst [], 2) g := by
    refine e_comp0 (ts := lets.map encL) (by simp) fun t ht => ?_
    obtain ⟨l, hl, rfl⟩ := List.mem_map.mp ht
    simp [ev14 (k + 3) (h.names l hl) g]
  rw [ss_nx (env' := [some (.tup [encU ups, encM lets], 0), none, none, none, none, none, none, none]) (g' := g) (by simp),
    ss_nx (env' := [some (.tup [encU ups, encM lets], 0), some (encU ups, 0), some (encM lets, 0), none, none, none, none, none]) (g' := g) (by simp [norm]),
    ss_nx (env' := [some (.tup [encU ups, encM lets], 0), some (encU ups, 0), some (encM lets, 0), none, none, none, none, none]) (g' := g) (by simp),
    ss_nx (env' := [some (.tup [encU ups, encM lets], 0), some (encU ups, 0), some (encM lets, 0), none, none, none, none, none]) (g' := g) (by simp [q1, q2, q3, ev15 k h hl g]),
    ss_nx (env' := [some (.tup [encU ups, encM lets], 0), some (encU ups, 0), some (encM lets, 0), none, none, none, none, none]) (g' := g) (by simp [hc])]
  have loop := forL_find (b := turnF (eF P W (k + 5)) W (.many [3, 4]) l16_1) (e := fun p : Nat × List Nat => T.tup [.int (p.1 : Int), encI p.2]) (p := fun _ => true) (r := (.non, 0)) (g := g)
    (I := fun env => ∃ a b c, env = [some (.tup [encU ups, encM lets], 0), some (encU ups, 0), some (encM lets, 0), a, b, c, none, none]) ((List.range ups.length).zip ups) [some (.tup [encU ups, encM lets], 0), some (encU ups, 0), some (encM lets, 0), none, none, none, none, none] ⟨_, _, _, rfl⟩ (fun p hp env he => ⟨fun _ => ?_, fun z => by cases z⟩)
  · obtain ⟨env', e1, a, b, f, rfl⟩ := loop.1 (List.all_eq_true.mpr fun _ _ => rfl)
    rw [ss_nx (env' := _) (g' := g) (by
      rw [s_for, enum_encU (x := ups) (v := 0) (by simp), Out.bind_ok]
      simpa using e1)]
    simp [ss_cons]
  · obtain ⟨a, b, f, rfl⟩ := he
    obtain ⟨w, u⟩ := p
    obtain ⟨hw, hu⟩ := mem_enum hp
    simp only at hw hu
    have eu : upAt ups w = u := by
      rw [upAt_eq hw]
      rw [List.getElem?_eq_getElem hw] at hu
      exact Option.some.inj hu
    have um : u ∈ ups := by rw [← eu]; exact upAt_mem hw
    obtain ⟨lw, gw, elw⟩ := let_get (l := lets) (x := w) (by omega)
    have inner := forL_find (b := turnF (eF P W (k + 5)) W (.one 5) l16_0) (e := tI) (p := fun _ => true) (r := (.non, 0)) (g := g)
      (I := fun env => ∃ c f', env = [some (.tup [encU ups, encM lets], 0), some (encU ups, 0), some (encM lets, 0), some (.int (w : Int), 2), some (encI u, f'), c, none, none]) u [some (.tup [encU ups, encM lets], 0), some (encU ups, 0), some (encM lets, 0), some (.int (w : Int), 2), some (encI u, 0), f, none, none] ⟨_, _, rfl⟩ (fun x hx env he => ⟨fun _ => ?_, fun z => by cases z⟩)
    · obtain ⟨env', e1, c, f', rfl⟩ := inner.1 (List.all_eq_true.mpr fun _ _ => rfl)
      refine ⟨[some (.tup [encU ups, encM lets], 0), some (encU ups, 0), some (encM lets, 0), some (.int (w : Int), 2), some (encI u, f'), c, none, none], ?_, _, _, _, rfl⟩
      simp only [turnF, bindV_two]
      rw [l16_1, ss_nx (env' := _) (g' := g) (by
        rw [s_for, i_seq]
        simpa using e1)]
      exact ss_nil
    · obtain ⟨c, f', rfl⟩ := he
      have hx' := h.lt u um x hx
      obtain ⟨lx, gx, elx⟩ := let_get (l := lets) (x := x) (by omega)
      have c1 : eE (eF P W (k + 5)) [none, none, some (encM lets), some (.int (w : Int)), none, some (tI x), none, none] (.comp (.var 7) [7] (.one 7) (.seq (.idx (.var 2) (.var 3))) (.cmp .NotIn (.var 7) (.idx (.var 2) (.var 5)))) g = .ok (.lst [], 2) g := by
        refine e_comp0 (ts := lw.map T.str) (by simp [gw]) fun t ht => ?_
        obtain ⟨s, hs, rfl⟩ := List.mem_map.mp ht
        have := h.mono w hw x (by rw [eu]; exact hx) s (by rw [elw]; exact hs)
        rw [elx] at this
        simp [gx, this]
      refine ⟨[some (.tup [encU ups, encM lets], 0), some (encU ups, 0), some (encM lets, 0), some (.int (w : Int), 2), some (encI u, f'), some (tI x, 2), none, none], ?_, _, _, rfl⟩
      simp only [turnF, bindV_one]
      simp only [l16_0, ss_cons]
      simp [c1]
theorem ev17 (k : Nat) {ups : List (List Nat)} {lets : List (List (List Nat))} (h : WF NmAB ups lets) (hl : ups.length ≤ 60) (g : List T) : eF P W (k + 7) 17 [encO ups lets] g = .ok (.bl true, 2) g := by
  rw [uf17]
  simp [b17, ss_cons, ev16 k h hl g]
theorem ev18 (k : Nat) {ups : List (List Nat)} {lets : List (List (List Nat))} (h : WF NmAB ups lets) (hl : ups.length ≤ 60) (g : List T) : eF P W (k + 7) 18 [encO ups lets] g = .ok (.non, 2) g := by
  rw [uf18]
  simp [b18, ss_cons, ev16 k h hl g]
end Fx.K53
end

section
set_option Elab.async false
set_option linter.all false
set_option maxRecDepth 100000
set_option maxHeartbeats 4000000
/-! Ef53: k53, what stands where. -/
namespace Fx.K53
open PySem PySem.Spec PyProof.Rows L2 Fx Fx.Om
section
variable {ups : List (List Nat)} {lets : List (List (List Nat))}
theorem zip_and (h : lets.length = ups.length) (f g : Fm) : ((tv ups lets f).zip (tv ups lets g)).map (fun p => p.1 && p.2) = tv ups lets (.and f g) := by
  have h1 := tv_length h f
  have h2 := tv_length h g
  apply List.ext_getElem
  · simp [tv, h1, h2]
  · intro i a b
    have ha : i < ups.length := by simpa [h1, h2] using a
    simp [tv, List.getD_eq_getElem?_getD, h1, h2, ha]
theorem zip_or (h : lets.length = ups.length) (f g : Fm) : ((tv ups lets f).zip (tv ups lets g)).map (fun p => p.1 || p.2) = tv ups lets (.or f g) := by
  have h1 := tv_length h f
  have h2 := tv_length h g
  apply List.ext_getElem
  · simp [tv, h1, h2]
  · intro i a b
    have ha : i < ups.length := by simpa [h1, h2] using a
    simp [tv, List.getD_eq_getElem?_getD, h1, h2, ha]
theorem tv_get (h : lets.length = ups.length) (f : Fm) {i : Nat} (hi : i < ups.length) : (tv ups lets f)[i]? = some (tvAt ups lets f i) := by
  have h1 := tv_length h f
  simp [tvAt, List.getD_eq_getElem?_getD, h1, hi]
theorem lst_bl {α : Type} (xs : List α) (p : α → Bool) : T.lst (xs.map fun x => T.bl (p x)) = encB (xs.map p) := by
  simp [encB]
theorem filt_thn {a b : Fm} : (ups.map fun u => (u.filter fun x => tvAt ups lets a x && !tvAt ups lets b x).isEmpty) = tv ups lets (.thn a b) := by
  simp only [tv]
  apply List.map_congr_left
  intro u _
  rw [Bool.eq_iff_iff, List.isEmpty_iff, List.filter_eq_nil_iff, List.all_eq_true]
  constructor
  · intro q x hx
    have := q x hx
    revert this
    simp only [tvAt]
    generalize (tv ups lets a).getD x false = va
    generalize (tv ups lets b).getD x false = vb
    cases va <;> cases vb <;> simp
  · intro q x hx
    have := q x hx
    revert this
    simp only [tvAt]
    generalize (tv ups lets a).getD x false = va
    generalize (tv ups lets b).getD x false = vb
    cases va <;> cases vb <;> simp
theorem ev19 (k : Nat) (h : lets.length = ups.length) (hlt : ∀ u ∈ ups, ∀ v ∈ u, v < ups.length) {p : Fm} (hd : dep p ≤ 7) {D : List Fm} (hD : ∀ q ∈ kids p, q ∈ D) (g : List T) :
    eF P W (k + 1) 19 [encO ups lets, encF p, encK ups lets D] g = .ok (encB (tv ups lets p), 2) g := by
  rw [uf19, b19]
  rw [ss_nx (env' := [some (encO ups lets, 0), some (encF p, 0), some (encK ups lets D, 0), some (encU ups, 0), some (encM lets, 0), none, none, none, none, none, none]) (g' := g) (by simp)]
  have thenI : ∀ {a b : Fm}, p = .and a b ∨ p = .or a b ∨ p = .thn a b → dep a ≤ 7 ∧ dep b ≤ 7 ∧ a ∈ D ∧ b ∈ D := fun {a b} e => by
    rcases e with rfl | rfl | rfl <;> (simp only [dep] at hd; refine ⟨by omega, by omega, hD _ (by simp [kids]), hD _ (by simp [kids])⟩)
  cases p with
  | is s =>
    have hc : eE (eF P W k) [none, some (encF (.is s)), none, none, some (encM lets), none, none, none, none, none, none] (.comp (.cmp .In (.idx (.var 1) (.lit (.int 1))) (.var 8)) [8] (.one 8) (.seq (.var 4)) (.lit (.bl true))) g = .ok (.lst (lets.map fun l => .bl (decide (s ∈ l))), 2) g :=
      e_comp2 (e := encL) (n := fun _ => 2) (by simp) fun l hl => ⟨.inl rfl, by simp [encF]⟩
    rw [ss_rt (x := (.lst (lets.map fun l => .bl (decide (s ∈ l))), 2)) (g' := g) (by simp [encF, ss_cons] at hc ⊢; simp [hc])]
    simp [lst_bl, tv]
  | no =>
    have hc : eE (eF P W k) [none, none, none, some (encU ups), none, none, none, none, none, none, none] (.comp (.lit (.bl false)) [7] (.one 7) (.seq (.var 3)) (.lit (.bl true))) g = .ok (.lst (ups.map fun l => .bl false), 2) g :=
      e_comp2 (e := encI) (n := fun _ => 2) (by simp) fun l hl => ⟨.inl rfl, by simp⟩
    rw [ss_nx (env' := [some (encO ups lets, 0), some (encF .no, 0), some (encK ups lets D, 0), some (encU ups, 0), some (encM lets, 0), none, none, none, none, none, none]) (g' := g) (by simp [encF]),
      ss_rt (x := (.lst (ups.map fun l => .bl false), 2)) (g' := g) (by simp [encF, ss_cons, hc])]
    simp [lst_bl, tv]
  | and a b =>
    obtain ⟨d1, d2, m1, m2⟩ := thenI (.inl rfl)
    have hc : eE (eF P W k) [none, none, none, none, none, some (encB (tv ups lets a)), some (encB (tv ups lets b)), none, none, none, none] (.comp (.and (.var 9) (.var 10)) [9, 10] (.many [9, 10]) (.zip (.var 5) (.var 6)) (.lit (.bl true))) g = .ok (.lst (((tv ups lets a).zip (tv ups lets b)).map fun p => .bl (p.1 && p.2)), 2) g :=
      e_comp2 (e := fun p : Bool × Bool => T.tup [.bl p.1, .bl p.2]) (n := fun _ => 0) (zip_encB (n := 0) (m := 0) (by simp) (by simp)) fun p hp => ⟨.inr rfl, by obtain ⟨x, y⟩ := p; cases x <;> simp⟩
    rw [ss_nx (env' := [some (encO ups lets, 0), some (encF (.and a b), 0), some (encK ups lets D, 0), some (encU ups, 0), some (encM lets, 0), none, none, none, none, none, none]) (g' := g) (by simp [encF]),
      ss_nx (env' := [some (encO ups lets, 0), some (encF (.and a b), 0), some (encK ups lets D, 0), some (encU ups, 0), some (encM lets, 0), none, none, none, none, none, none]) (g' := g) (by simp [encF]),
      ss_nx (env' := [some (encO ups lets, 0), some (encF (.and a b), 0), some (encK ups lets D, 0), some (encU ups, 0), some (encM lets, 0), some (encB (tv ups lets a), 0), some (encB (tv ups lets b), 0), none, none, none, none]) (g' := g) (by simp [encF, idx_encK d1 m1, idx_encK d2 m2, norm, flat_encF]),
      ss_rt (x := (.lst (((tv ups lets a).zip (tv ups lets b)).map fun p => .bl (p.1 && p.2)), 2)) (g' := g) (by simp [encF, ss_cons, hc])]
    rw [lst_bl, zip_and h]
    simp
  | or a b =>
    obtain ⟨d1, d2, m1, m2⟩ := thenI (.inr (.inl rfl))
    have hc : eE (eF P W k) [none, none, none, none, none, some (encB (tv ups lets a)), some (encB (tv ups lets b)), none, none, none, none] (.comp (.or (.var 9) (.var 10)) [9, 10] (.many [9, 10]) (.zip (.var 5) (.var 6)) (.lit (.bl true))) g = .ok (.lst (((tv ups lets a).zip (tv ups lets b)).map fun p => .bl (p.1 || p.2)), 2) g :=
      e_comp2 (e := fun p : Bool × Bool => T.tup [.bl p.1, .bl p.2]) (n := fun _ => 0) (zip_encB (n := 0) (m := 0) (by simp) (by simp)) fun p hp => ⟨.inr rfl, by obtain ⟨x, y⟩ := p; cases x <;> simp⟩
    rw [ss_nx (env' := [some (encO ups lets, 0), some (encF (.or a b), 0), some (encK ups lets D, 0), some (encU ups, 0), some (encM lets, 0), none, none, none, none, none, none]) (g' := g) (by simp [encF]),
      ss_nx (env' := [some (encO ups lets, 0), some (encF (.or a b), 0), some (encK ups lets D, 0), some (encU ups, 0), some (encM lets, 0), none, none, none, none, none, none]) (g' := g) (by simp [encF]),
      ss_nx (env' := [some (encO ups lets, 0), some (encF (.or a b), 0), some (encK ups lets D, 0), some (encU ups, 0), some (encM lets, 0), some (encB (tv ups lets a), 0), some (encB (tv ups lets b), 0), none, none, none, none]) (g' := g) (by simp [encF, idx_encK d1 m1, idx_encK d2 m2, norm, flat_encF]),
      ss_nx (env' := [some (encO ups lets, 0), some (encF (.or a b), 0), some (encK ups lets D, 0), some (encU ups, 0), some (encM lets, 0), some (encB (tv ups lets a), 0), some (encB (tv ups lets b), 0), none, none, none, none]) (g' := g) (by simp [encF]),
      ss_rt (x := (.lst (((tv ups lets a).zip (tv ups lets b)).map fun p => .bl (p.1 || p.2)), 2)) (g' := g) (by simp [encF, ss_cons, hc])]
    rw [lst_bl, zip_or h]
    simp
  | thn a b =>
    obtain ⟨d1, d2, m1, m2⟩ := thenI (.inr (.inr rfl))
    have ci : ∀ u ∈ ups, eE (eF P W k) [none, none, none, some (encU ups), none, some (encB (tv ups lets a)), some (encB (tv ups lets b)), some (encI u), none, none, none] (.comp (.var 9) [9] (.one 9) (.seq (.var 7)) (.and (.idx (.var 5) (.var 9)) (.not (.idx (.var 6) (.var 9))))) g = .ok (encI (u.filter fun x => tvAt ups lets a x && !tvAt ups lets b x), 2) g := fun u hu => by
      refine (e_comp (e := tI) (xs := u) (p := fun x => tvAt ups lets a x && !tvAt ups lets b x) (r := fun x => (tI x, 0)) (by simp) fun x hx => ?_).trans ?_
      · have hx' := hlt u hu x hx
        have ga := tv_get h a hx'
        have gb := tv_get h b hx'
        generalize tvAt ups lets a x = va at ga ⊢
        generalize tvAt ups lets b x = vb at gb ⊢
        cases va <;> simp [ga, gb] <;> cases vb <;> simp
      · rw [allFl_map fun _ _ => .inr rfl]
        rfl
    have hc : eE (eF P W k) [none, none, none, some (encU ups), none, some (encB (tv ups lets a)), some (encB (tv ups lets b)), none, none, none, none] (.comp (.cmp .Eq (.comp (.var 9) [9] (.one 9) (.seq (.var 7)) (.and (.idx (.var 5) (.var 9)) (.not (.idx (.var 6) (.var 9))))) (.lst .nil)) [7] (.one 7) (.seq (.var 3)) (.lit (.bl true))) g = .ok (.lst (ups.map fun u => .bl (u.filter fun x => tvAt ups lets a x && !tvAt ups lets b x).isEmpty), 2) g :=
      e_comp2 (e := encI) (n := fun _ => 2) (by simp) fun u hu => ⟨.inl rfl, by simp only [bind_one, wipe_one, List.set_cons_succ, List.set_cons_zero, x_lit, Out.bind_ok, truth_bl, x_cmp, ci u hu]; simp⟩
    rw [ss_nx (env' := [some (encO ups lets, 0), some (encF (.thn a b), 0), some (encK ups lets D, 0), some (encU ups, 0), some (encM lets, 0), none, none, none, none, none, none]) (g' := g) (by simp [encF]),
      ss_nx (env' := [some (encO ups lets, 0), some (encF (.thn a b), 0), some (encK ups lets D, 0), some (encU ups, 0), some (encM lets, 0), none, none, none, none, none, none]) (g' := g) (by simp [encF]),
      ss_nx (env' := [some (encO ups lets, 0), some (encF (.thn a b), 0), some (encK ups lets D, 0), some (encU ups, 0), some (encM lets, 0), some (encB (tv ups lets a), 0), some (encB (tv ups lets b), 0), none, none, none, none]) (g' := g) (by simp [encF, idx_encK d1 m1, idx_encK d2 m2, norm, flat_encF]),
      ss_nx (env' := [some (encO ups lets, 0), some (encF (.thn a b), 0), some (encK ups lets D, 0), some (encU ups, 0), some (encM lets, 0), some (encB (tv ups lets a), 0), some (encB (tv ups lets b), 0), none, none, none, none]) (g' := g) (by simp [encF]),
      ss_nx (env' := [some (encO ups lets, 0), some (encF (.thn a b), 0), some (encK ups lets D, 0), some (encU ups, 0), some (encM lets, 0), some (encB (tv ups lets a), 0), some (encB (tv ups lets b), 0), none, none, none, none]) (g' := g) (by simp [encF]),
      ss_rt (x := (.lst (ups.map fun u => .bl (u.filter fun x => tvAt ups lets a x && !tvAt ups lets b x).isEmpty), 2)) (g' := g) (by simp [encF, hc])]
    rw [lst_bl]
    rw [filt_thn]
    simp
theorem seti_encK {a b d : Option (T × Nat)} {D : List Fm} {p : Fm} {n : Nat} {g : List T} (hd : dep p ≤ 7) (c : p ∉ D) (hl : D.length < 1000000) :
    setiV [a, b, some (encK ups lets D, 1), d] 2 (encF p) (encB (tv ups lets p), n) g = .ok (.nx [a, b, some (encK ups lets (D ++ [p]), 1), d]) g := by
  have lk := look_encK ups lets p D
  rw [if_neg c] at lk
  simp [setiV, encK, keyOk_encF hd, hl, putT, lk]
theorem ev20 (k : Nat) (h : lets.length = ups.length) (hlt : ∀ u ∈ ups, ∀ v ∈ u, v < ups.length) {f : Fm} (hd : dep f ≤ 7) (hs : siz f ≤ 40) (g : List T) :
    eF P W (k + 3) 20 [encO ups lets, encF f] g = .ok (encB (tv ups lets f), 0) g := by
  rw [uf20, b20_eq, ss_nx (env' := [some (encO ups lets, 0), some (encF f, 0), some (encK ups lets [], 1), none]) (g' := g) (by simp [encK])]
  have loop := forL_map (b := turnF (eF P W (k + 2)) W (.one 3) l20_0) (e := encF) (I := fun don env g' => g' = g ∧ ∃ D x, env = [some (encO ups lets, 0), some (encF f, 0), some (encK ups lets D, 1), x] ∧ D.length ≤ don.length ∧ ∀ q, q ∈ D ↔ q ∈ don)
    (Q := fun o => ∃ D x, o = .ok (.nx [some (encO ups lets, 0), some (encF f, 0), some (encK ups lets D, 1), x]) g ∧ ∀ q, q ∈ D ↔ q ∈ parts f) (parts f).reverse [] [some (encO ups lets, 0), some (encF f, 0), some (encK ups lets [], 1), none] g ⟨rfl, [], none, rfl, Nat.le_refl _, fun q => Iff.rfl⟩ (fun pre p post env g' eq hI => ?_) (fun env g' hI => ?_)
  · obtain ⟨D, x, e1, hm⟩ := loop
    rw [ss_nx (env' := [some (encO ups lets, 0), some (encF f, 0), some (encK ups lets D, 1), x]) (g' := g) (by
      rw [s_for]
      simp [ev11 k f hs g]
      rw [← List.map_reverse]
      exact e1)]
    have fm : f ∈ D := (hm f).mpr (by rw [parts_kids]; exact List.mem_cons_self)
    simp [ss_cons, idx_encK hd fm]
  · obtain ⟨rfl, D, x, rfl, hl, hm⟩ := hI
    rw [List.nil_append] at eq
    have pm : p ∈ parts f := List.mem_reverse.mp (by rw [eq]; simp)
    have pd : dep p ≤ 7 := Nat.le_trans (parts_dep p pm) hd
    have eq' : parts f = post.reverse ++ p :: pre.reverse := by
      have := congrArg List.reverse eq
      simpa using this
    have hk : ∀ q ∈ kids p, q ∈ D := fun q hq => (hm q).mpr (by
      have := parts_behind eq' q hq
      simpa using this)
    have plen : pre.length ≤ 40 := by
      have := congrArg List.length eq
      have e2 := parts_len f
      simp at this
      omega
    by_cases c : p ∈ D
    · refine ⟨[some (encO ups lets, 0), some (encF f, 0), some (encK ups lets D, 1), some (encF p, 2)], g', .inl ?_, rfl, D, _, rfl, by simp; omega, fun q => ?_⟩
      · simp only [turnF, bindV_one, l20_0, ss_cons]
        simp [in_encK pd, c]
      · rw [hm]
        simp only [List.mem_append, List.mem_singleton]
        exact ⟨.inl, fun z => z.elim id fun z => z ▸ (hm p).mp c⟩
    · refine ⟨[some (encO ups lets, 0), some (encF f, 0), some (encK ups lets (D ++ [p]), 1), some (encF p, 2)], g', .inl ?_, rfl, D ++ [p], _, rfl, by simp; omega, fun q => ?_⟩
      · simp only [turnF, bindV_one, l20_0, ss_cons]
        simp [ss_cons, in_encK pd, c, ev19 (k + 1) h hlt pd hk g', seti_encK pd c (show D.length < 1000000 by omega)]
      · simp [hm]
  · obtain ⟨rfl, D, x, rfl, hl, hm⟩ := hI
    exact ⟨D, x, rfl, fun q => by rw [hm]; simp⟩
theorem ev21 (k : Nat) (h : WF NmAB ups lets) (hl : ups.length ≤ 60) {f : Fm} (hf : okF NAB f) (hd : dep f ≤ 7) (hs : siz f ≤ 40) {w : Nat} (hw : w < ups.length) (g : List T) :
    eF P W (k + 8) 21 [encO ups lets, encF f, .int (w : Int)] g = .ok (.bl (tvAt ups lets f w), 2) g := by
  have t := tv_get h.ll f hw
  generalize tvAt ups lets f w = v at t ⊢
  rw [uf21]
  simp [b21, ss_cons, ev18 k h hl g, ev8 (k + 2) hf hs g, ev2, hw, ev20 (k + 4) h.ll h.lt hd hs g, t]
theorem ev22 (k : Nat) (h : WF NmAB ups lets) (hl : ups.length ≤ 60) {f : Fm} (hf : okF NAB f) (hd : dep f ≤ 7) (hs : siz f ≤ 40) (g : List T) :
    eF P W (k + 8) 22 [encO ups lets, encF f] g = .ok (encI ((List.range ups.length).filter fun w => tvAt ups lets f w), 2) g := by
  rw [uf22]
  have hc : eE (eF P W (k + 7)) [some (encO ups lets), some (encF f), none, none] (.comp (.var 2) [2, 3] (.many [2, 3]) (.enum (.call 20 (.cons (.var 0) (.cons (.var 1) .nil)))) (.var 3)) g = .ok (encI ((List.range ups.length).filter fun w => tvAt ups lets f w), 2) g := by
    refine (e_comp (e := fun p : Nat × Bool => T.tup [.int (p.1 : Int), .bl p.2]) (xs := (List.range (tv ups lets f).length).zip (tv ups lets f)) (p := fun p => p.2) (r := fun p => (tI p.1, 0)) (enum_encB (v := 0) (by simp [ev20 (k + 4) h.ll h.lt hd hs g])) fun p hp => ?_).trans ?_
    · obtain ⟨i, b⟩ := p
      cases b <;> simp
    · rw [allFl_map fun _ _ => .inr rfl]
      have e : ((List.range (tv ups lets f).length).zip (tv ups lets f)).filter (fun p => p.2) = ((List.range ups.length).filter fun w => tvAt ups lets f w).map fun w => (w, true) := by
        have e1 : (List.range (tv ups lets f).length).zip (tv ups lets f) = (List.range ups.length).map fun w => (w, tvAt ups lets f w) := by
          apply List.ext_getElem
          · simp [tv_length h.ll]
          · intro i a b
            have hi : i < ups.length := by simpa using b
            have t := tv_get h.ll f hi
            have hi2 : i < (tv ups lets f).length := by rw [tv_length h.ll]; exact hi
            rw [List.getElem?_eq_getElem hi2] at t
            simp only [List.getElem_zip, List.getElem_range, List.getElem_map, Prod.mk.injEq, true_and]
            exact Option.some.inj t
        rw [e1, List.filter_map]
        apply List.map_congr_left
        intro w hw
        have := (List.mem_filter.mp hw).2
        simp only [Function.comp] at this
        rw [this]
      rw [e, List.map_map]
      rfl
  simp [b22, ss_cons, ev18 k h hl g, ev8 (k + 2) hf hs g, hc]
theorem ev23 (k : Nat) (h : WF NmAB ups lets) {f : Fm} (hd : dep f ≤ 7) (hs : siz f ≤ 40) (g : List T) :
    eF P W (k + 4) 23 [.lst [], encF f, encO ups lets] g = .ok (.bl (!tvAt ups lets f 0), 2) g := by
  have t := tv_get h.ll f h.pos
  generalize tvAt ups lets f 0 = v at t ⊢
  rw [uf23]
  have hc : eE (eF P W (k + 3)) [some (.lst []), none, some (encO ups lets), none] (.comp (.var 3) [3] (.one 3) (.seq (.var 0)) (.not (.idx (.call 20 (.cons (.var 2) (.cons (.var 3) .nil))) (.lit (.int 0))))) g = .ok (.lst [], 2) g :=
    e_comp0 (ts := []) (by simp) fun t ht => by cases ht
  simp [b23, ss_cons, hc, ev20 k h.ll h.lt hd hs g, idx0_encB, t]
theorem ev24 (k : Nat) (h : WF NmAB ups lets) (hl : ups.length ≤ 60) {f : Fm} (hf : okF NAB f) (hd : dep f ≤ 7) (hs : siz f ≤ 40) (g : List T) :
    eF P W (k + 7) 24 [.lst [], encF f, encO ups lets] g = .ok (.bl (!tvAt ups lets f 0), 2) g := by
  rw [uf24]
  simp [b24, ss_cons, ev10 (k + 4) g, ev8 (k + 1) hf hs g, ev16 k h hl g, ev23 (k + 2) h hd hs g]
end
end Fx.K53
end

section
set_option Elab.async false
set_option linter.all false
set_option maxRecDepth 100000
set_option maxHeartbeats 4000000
/-! Eg53: k53, side by side; parts. -/
namespace Fx.K53
open PySem PySem.Spec PyProof.Rows L2 Fx Fx.Om
section
variable {ups u1 u2 : List (List Nat)} {lets l1 l2 : List (List (List Nat))}
theorem ev25 (k : Nat) (n : Nat) (i : Int) (hi : i = (n : Int)) (ups : List (List Nat)) (g : List T) : eF P W (k + 1) 25 [encU ups, .int i] g = .ok (encU (ups.map (·.map (· + n))), 2) g := by
  subst hi
  rw [uf25]
  have ci : ∀ u : List Nat, eE (eF P W k) [some (encU ups), some (.int (n : Int)), some (encI u), none] (.comp (.bin .add (.var 3) (.var 1)) [3] (.one 3) (.seq (.var 2)) (.lit (.bl true))) g = .ok (encI (u.map (· + n)), 2) g := fun u => by
    refine (e_comp2 (e := tI) (xs := u) (r := fun x => tI (x + n)) (n := fun _ => 2) (by simp) fun x hx => ⟨.inl rfl, by simp⟩).trans ?_
    rw [← mk_encI, List.map_map]
    rfl
  have hc : eE (eF P W k) [some (encU ups), some (.int (n : Int)), none, none] (.comp (.comp (.bin .add (.var 3) (.var 1)) [3] (.one 3) (.seq (.var 2)) (.lit (.bl true))) [2] (.one 2) (.seq (.var 0)) (.lit (.bl true))) g = .ok (encU (ups.map (·.map (· + n))), 2) g := by
    refine (e_comp2 (e := encI) (xs := ups) (r := fun u => encI (u.map (· + n))) (n := fun _ => 2) (by simp) fun u hu => ⟨.inl rfl, ?_⟩).trans ?_
    · simp only [bind_one, wipe_one, List.set_cons_succ, List.set_cons_zero, x_lit, Out.bind_ok, truth_bl, ci]
    · rw [← mk_encU, List.map_map]
      rfl
  simp [b25, ss_cons, hc]
theorem add_range {x : List (List Nat)} {r : List Nat} {f1 f2 : Nat} (h : x.length ≤ 1000) : binV .add (.lst [encI r]) (encU x) f1 f2 = some (encU (r :: x), fl2 f1 f2) := by
  show binV .add (.lst [encI r]) (.lst (x.map encI)) f1 f2 = _
  rw [add_lst (by simp; omega)]
  rfl
theorem add_none {x : List (List (List Nat))} {f1 f2 : Nat} (h : x.length ≤ 1000) : binV .add (.lst [.lst []]) (encM x) f1 f2 = some (encM ([] :: x), fl2 f1 f2) := by
  show binV .add (.lst [.lst []]) (.lst (x.map encL)) f1 f2 = _
  rw [add_lst (by simp; omega)]
  rfl
theorem ev26 (k : Nat) (h1 : u1.length ≤ 100) (h2 : u2.length ≤ 100) (h3 : l1.length ≤ 100) (h4 : l2.length ≤ 100) (g : List T) : eF P W (k + 2) 26 [encO u1 l1, encO u2 l2] g = .ok (encO (besUps u1 u2) (besLets l1 l2), 0) g := by
  rw [uf26, b26]
  have e1 := ev25 k 1 1 rfl u1 g
  have e2 := ev25 k (u1.length + 1) ((u1.length : Int) + 1) (by omega) u2 g
  have a1 : binV .add (encU (u1.map (·.map (· + 1)))) (encU (u2.map (·.map (· + (u1.length + 1))))) 2 2 = some (encU (u1.map (·.map (· + 1)) ++ u2.map (·.map (· + (u1.length + 1)))), 2) := add_encU (by simp; omega)
  have a2 : binV .add (encM l1) (encM l2) 0 0 = some (encM (l1 ++ l2), 1) := add_encM (by omega)
  have hc : eE (eF P W (k + 1)) [some (encO u1 l1), some (encO u2 l2), none, none, none, none] (.comp (.bi .lis (.cons (.var 5) .nil)) [5] (.one 5) (.seq (.bin .add (.idx (.var 0) (.lit (.int 1))) (.idx (.var 1) (.lit (.int 1))))) (.lit (.bl true))) g = .ok (encM (l1 ++ l2), 2) g := by
    refine (e_comp2 (e := encL) (xs := l1 ++ l2) (r := encL) (n := fun _ => 2) (by simp [a2]) fun x hx => ⟨.inl rfl, by simp⟩).trans ?_
    rfl
  have hr : eE (eF P W (k + 1)) [none, none, none, some (encU (u1.map (·.map (· + 1)) ++ u2.map (·.map (· + (u1.length + 1))))), some (encM (l1 ++ l2)), none] (.lrng1 (.bin .add (.bi .len (.cons (.var 3) .nil)) (.lit (.int 1)))) g = .ok (encI (List.range (u1.length + u2.length + 1)), 2) g :=
    lrng_nat (n := u1.length + u2.length + 1) (v := 2) (by simp) (by omega)
  rw [ss_nx (env' := [some (encO u1 l1, 0), some (encO u2 l2, 0), some (.int (u1.length : Int), 2), none, none, none]) (g' := g) (by simp),
    ss_nx (env' := [some (encO u1 l1, 0), some (encO u2 l2, 0), some (.int (u1.length : Int), 2), some (encU (u1.map (·.map (· + 1)) ++ u2.map (·.map (· + (u1.length + 1)))), 2), none, none]) (g' := g) (by simp [e1, e2, a1]),
    ss_nx (env' := [some (encO u1 l1, 0), some (encO u2 l2, 0), some (.int (u1.length : Int), 2), some (encU (u1.map (·.map (· + 1)) ++ u2.map (·.map (· + (u1.length + 1)))), 2), some (encM (l1 ++ l2), 2), none]) (g' := g) (by simp [hc]),
    ss_rt (x := (encO (besUps u1 u2) (besLets l1 l2), 0)) (g' := g) (by
      simp only [s_ret, only_cons, only_nil]
      simp [hr]
      rw [add_range (by simp; omega), add_none (by simp; omega)]
      simp [allFl, isFlat2, encO, besUps, besLets])]
  simp
theorem ev27 (k : Nat) (h1 : WF NmAB u1 l1) (h2 : WF NmAB u2 l2) (hl : u1.length + u2.length + 1 ≤ 60) (g : List T) : eF P W (k + 8) 27 [encO u1 l1, encO u2 l2] g = .ok (encO (besUps u1 u2) (besLets l1 l2), 0) g := by
  rw [uf27]
  have e := ev26 (k + 5) (u1 := u1) (u2 := u2) (l1 := l1) (l2 := l2) (by omega) (by omega) (by rw [h1.ll]; omega) (by rw [h2.ll]; omega) g
  have c : ¬ (60 < (u1.length : Int) + (u2.length : Int) + 1) := by omega
  simp [b27, ss_cons, ev18 k h1 (by omega) g, ev18 k h2 (by omega) g, c, e]

/-! ### numbers -/
theorem once_snoc {α : Type} [DecidableEq α] (x : α) : ∀ xs : List α, once (xs ++ [x]) = if x ∈ xs then once xs else once xs ++ [x]
  | [] => by simp [once]
  | a :: r => by
    simp only [List.cons_append, once, once_snoc x r, List.mem_cons]
    by_cases h1 : x ∈ r
    · simp [h1]
    · by_cases h2 : x = a
      · subst h2
        simp [h1]
      · simp [h1, h2]
def encD (ks : List (List Nat)) : T := .dic false (ks.map T.str) ((List.range ks.length).map tI)
section
variable {α : Type} [DecidableEq α]
def ixO (ks : List α) (w : α) : Nat := ks.idxOf w
theorem num_ixO (ws : List α) : num ws = ws.map (ixO (once ws)) := rfl
theorem ixO_lt {ks : List α} {w : α} (m : w ∈ ks) : ixO ks w < ks.length := List.idxOf_lt_length_of_mem m
theorem ixO_cons (a w : α) (ks : List α) : ixO (a :: ks) w = if a = w then 0 else ixO ks w + 1 := by
  unfold ixO
  rw [List.idxOf_cons]
  by_cases h : a = w
  · simp [h]
  · have : (a == w) = false := beq_eq_false_iff_ne.mpr h
    rw [this, if_neg h]
    rfl
end
theorem look_str (w : List Nat) : ∀ (ks : List (List Nat)) (vs : List T), vs.length = ks.length → lookT (ks.map T.str) vs (.str w) = if w ∈ ks then vs[ixO ks w]? else none
  | [], vs, h => by simp [lookT]
  | a :: ks, v :: vs, h => by
    have ih := look_str w ks vs (by simpa using h)
    unfold lookT at ih ⊢
    simp only [List.map_cons, List.zip_cons_cons, List.find?_cons, eqv_str']
    by_cases e : a = w
    · subst e
      simp [ixO_cons]
    · have e' : ¬ w = a := fun z => e z.symm
      simp only [e, decide_false, Bool.false_eq_true, if_false, List.mem_cons, e', false_or, ixO_cons]
      rw [ih]
      by_cases m : w ∈ ks <;> simp [m]
theorem in_encD {w : List Nat} {ks : List (List Nat)} : inV (.str w) (encD ks) = some (decide (w ∈ ks)) := by
  show (if keyOk false (.str w) then some (lookT _ _ (.str w)).isSome else none) = _
  rw [if_pos (show keyOk false (.str w) = true from rfl), look_str w ks _ (by simp)]
  by_cases m : w ∈ ks
  · have l := ixO_lt m
    simp [m, l]
  · simp [m]
theorem idx_encD {w : List Nat} {ks : List (List Nat)} {g : List T} {f : Nat} (m : w ∈ ks) : idxV g (encD ks) (.str w) f = some (tI (ixO ks w), 0) := by
  show (if keyOk false (.str w) then (lookT _ _ (.str w)).map fun t => (t, 0) else none) = _
  rw [if_pos (show keyOk false (.str w) = true from rfl), look_str w ks _ (by simp), if_pos m]
  have l := ixO_lt m
  simp [l]
theorem seti_encD {a d : Option (T × Nat)} {ks : List (List Nat)} {w : List Nat} {n : Nat} {g : List T} (c : w ∉ ks) (hl : ks.length < 1000000) :
    setiV [a, some (encD ks, 1), d] 1 (.str w) (.int (ks.length : Int), n) g = .ok (.nx [a, some (encD (ks ++ [w]), 1), d]) g := by
  have lk := look_str w ks ((List.range ks.length).map tI) (by simp)
  rw [if_neg c] at lk
  simp [setiV, encD, keyOk, hl, putT, lk, List.range_succ]
@[simp] theorem norm_encD {ks : List (List Nat)} {f : Nat} : norm (encD ks, f) = (encD ks, f) := (rfl)
@[simp] theorem len_encD {ks : List (List Nat)} {f : Nat} : biV .len [(encD ks, f)] = some (.int (ks.length : Int), 2) := by
  show some (T.int ((ks.map T.str).length : Int), 2) = _
  rw [List.length_map]
theorem ev29 (k : Nat) (ws : List (List Nat)) (hl : ws.length ≤ 1000) (g : List T) : eF P W (k + 1) 29 [encL ws] g = .ok (encI (num ws), 2) g := by
  rw [uf29, b29_eq, ss_nx (env' := [some (encL ws, 0), some (encD [], 1), none]) (g' := g) (by simp [encD])]
  have loop := forL_map (b := turnF (eF P W k) W (.one 2) l29_0) (e := T.str) (I := fun don env g' => g' = g ∧ ∃ x, env = [some (encL ws, 0), some (encD (once don), 1), x])
    (Q := fun o => ∃ x, o = .ok (.nx [some (encL ws, 0), some (encD (once ws), 1), x]) g) ws [] [some (encL ws, 0), some (encD [], 1), none] g ⟨rfl, none, rfl⟩ (fun pre p post env g' eq hI => ?_) (fun env g' hI => ?_)
  · obtain ⟨x, e1⟩ := loop
    rw [ss_nx (env' := [some (encL ws, 0), some (encD (once ws), 1), x]) (g' := g) (by
      rw [s_for]
      simp [e1])]
    have hc : eE (eF P W k) [some (encL ws), some (encD (once ws)), none] (.comp (.idx (.var 1) (.var 2)) [2] (.one 2) (.seq (.var 0)) (.lit (.bl true))) g = .ok (encI (num ws), 2) g := by
      refine (e_comp2 (e := T.str) (xs := ws) (r := fun w => tI (ixO (once ws) w)) (n := fun _ => 0) (by simp) fun w hw => ⟨.inr rfl, ?_⟩).trans ?_
      · simp [idx_encD (Om.mem_once.mpr hw)]
      · rw [num_ixO, ← mk_encI, List.map_map]
        rfl
    have hc' : eE (eF P W k) [some (encL ws), some (encD (once ws)), (x.map (·.1))] (.comp (.idx (.var 1) (.var 2)) [2] (.one 2) (.seq (.var 0)) (.lit (.bl true))) g = .ok (encI (num ws), 2) g := by
      refine (e_comp2 (e := T.str) (xs := ws) (r := fun w => tI (ixO (once ws) w)) (n := fun _ => 0) (by simp) fun w hw => ⟨.inr rfl, ?_⟩).trans ?_
      · simp [idx_encD (Om.mem_once.mpr hw)]
      · rw [num_ixO, ← mk_encI, List.map_map]
        rfl
    simp [ss_cons, hc']
  · obtain ⟨rfl, x, rfl⟩ := hI
    rw [List.nil_append] at eq
    have plen : (once pre).length ≤ 1000 := by
      have := congrArg List.length eq
      have := once_length_le pre
      simp at *
      omega
    by_cases c : p ∈ pre
    · refine ⟨[some (encL ws, 0), some (encD (once pre), 1), some (.str p, 2)], g', .inl ?_, rfl, _, by rw [once_snoc, if_pos c]⟩
      have c' : p ∈ once pre := Om.mem_once.mpr c
      simp only [turnF, bindV_one, l29_0, ss_cons]
      simp [in_encD, c']
    · refine ⟨[some (encL ws, 0), some (encD (once pre ++ [p]), 1), some (.str p, 2)], g', .inl ?_, rfl, _, by rw [once_snoc, if_neg c]⟩
      have c' : p ∉ once pre := fun z => c (Om.mem_once.mp z)
      simp only [turnF, bindV_one, l29_0, ss_cons]
      simp [ss_cons, in_encD, c', seti_encD c' (show (once pre).length < 1000000 by omega)]
  · obtain ⟨rfl, x, rfl⟩ := hI
    exact ⟨x, by rw [List.nil_append]⟩
end
end Fx.K53
end

section
set_option Elab.async false
set_option linter.all false
set_option maxRecDepth 100000
set_option maxHeartbeats 4000000
/-! Eh53: k53, parts of alike worlds. -/
namespace Fx.K53
open PySem PySem.Spec PyProof.Rows L2 Fx Fx.Om
/-! ### sets of numbers -/
theorem intsOf_tI : ∀ xs : List Nat, intsOf (xs.map tI) = some (xs.map fun (x : Nat) => (x : Int))
  | [] => rfl
  | x :: xs => by simp [intsOf, intsOf_tI xs]
theorem ins_map {α β : Type} {f : α → β} {le : α → α → Bool} {le' : β → β → Bool} (h : ∀ a b, le' (f a) (f b) = le a b) (a : α) : ∀ xs : List α, ins le' (f a) (xs.map f) = (ins le a xs).map f
  | [] => rfl
  | b :: r => by
    simp only [List.map_cons, ins, h]
    split
    · rfl
    · simp [ins_map h a r]
theorem isort_map {α β : Type} {f : α → β} {le : α → α → Bool} {le' : β → β → Bool} (h : ∀ a b, le' (f a) (f b) = le a b) : ∀ xs : List α, isort le' (xs.map f) = (isort le xs).map f
  | [] => rfl
  | a :: r => by
    simp only [List.map_cons, isort]
    rw [isort_map h r, ins_map h]
theorem once_cast (xs : List Nat) : once (xs.map fun (x : Nat) => (x : Int)) = (once xs).map fun (x : Nat) => (x : Int) := Om.once_map fun a _ b _ e => by omega
theorem sortSet_encI {xs : List Nat} {f : Nat} (h : (once xs).length < 64) (h2 : xs.length ≤ 4000) : biV .sortSet [(encI xs, f)] = some (encI (sset xs), 2) := by
  show (intsOf (xs.map tI)).bind _ = _
  rw [intsOf_tI, Option.bind_some, once_cast]
  rw [if_pos ⟨by simpa using h, by simpa using h2⟩]
  rw [isort_map (f := fun (x : Nat) => (x : Int)) (le := fun a b => decide (a ≤ b)) (fun a b => decide_eq_decide.mpr (by omega)), List.map_map]
  rfl
theorem lenSet_encI {xs : List Nat} {f : Nat} (h2 : xs.length ≤ 4000) : biV .lenSet [(encI xs, f)] = some (.int (Om.cnt xs : Int), 2) := by
  show (match intsOf (xs.map tI) with
    | some is => if is.length ≤ 4000 then some (T.int ((once is).length : Int), 2) else none
    | none => _) = _
  rw [intsOf_tI]
  simp only [once_cast, List.length_map]
  rw [if_pos h2]
  rfl

/-! ### repr -/
theorem rp_lst (ts : List T) : rp (.lst ts) = 91 :: (jf 0 (ts.map rp) ++ [93]) := by
  simp only [rp, T.dat, PyData.shown]
  rw [listText_list]
  have e : (PyData.shownAll (T.dats ts)).map (fun t => t.cps.toList) = ts.map rp := by
    rw [shownAll_map, List.map_map]
    have := dats_map (fun t : T => t) ts
    rw [List.map_id'] at this
    rw [this, List.map_map]
    rfl
  rw [e]
theorem rp_str {s : List Nat} (h : s.all isLow = true) : rp (.str s) = 39 :: (s ++ [39]) := by
  simp only [rp, T.dat, PyData.shown]
  exact reprText_low h
theorem rp_names {l : List (List Nat)} (h : ∀ s ∈ l, s.all isLow = true) : rp (encL l) = 91 :: (jf 0 (l.map fun s => 39 :: (s ++ [39])) ++ [93]) := by
  rw [encL, rp_lst, List.map_map]
  congr 3
  apply List.map_congr_left
  intro s hs
  exact rp_str (h s hs)
theorem low_ab {l : List (List Nat)} (h : NmAB l) : ∀ s ∈ l, s.all isLow = true := by
  rcases h with rfl | rfl | rfl | rfl <;> simp <;> decide
theorem rp_ab_inj {l m : List (List Nat)} (hl : NmAB l) (hm : NmAB m) (e : rp (encL l) = rp (encL m)) : l = m := by
  rw [rp_names (low_ab hl), rp_names (low_ab hm)] at e
  rcases hl with rfl | rfl | rfl | rfl <;> rcases hm with rfl | rfl | rfl | rfl <;> simp [jf] at e ⊢
theorem sm_names {l : List (List Nat)} (h : ∀ s ∈ l, s.all isLow = true) : sm (encL l) = true := by
  simp only [encL, sm]
  induction l with
  | nil => rfl
  | cons s l ih =>
    simp only [List.map_cons, sms, sm, Bool.and_eq_true]
    exact ⟨h s List.mem_cons_self, ih fun x hx => h x (List.mem_cons_of_mem _ hx)⟩
theorem wt_ab {l : List (List Nat)} (h : NmAB l) : wt (encL l) ≤ 20 := by
  rcases h with rfl | rfl | rfl | rfl <;> decide
theorem repr_names {l : List (List Nat)} {f : Nat} (h : NmAB l) : biV .repr [(encL l, f)] = some (.str (rp (encL l)), 2) := by
  show (if (encL l).plain && decide ((encL l).deep ≤ 64) then (reprV (encL l)).map fun s => (T.str s, 2) else none) = _
  rw [if_pos, reprV_sm (sm_names (low_ab h)) (Nat.le_trans (wt_ab h) (by decide))]
  · rfl
  · rw [plain_encL, Bool.true_and]
    exact decide_eq_true (Nat.le_trans (deep_encL l) (by decide))
theorem sm_encI {xs : List Nat} (h : ∀ x ∈ xs, x < 64) : sm (encI xs) = true := by
  simp only [encI, sm]
  induction xs with
  | nil => rfl
  | cons x xs ih =>
    have hx := h x List.mem_cons_self
    simp only [List.map_cons, sms, sm, Bool.and_eq_true, decide_eq_true_eq]
    exact ⟨⟨by omega, by omega⟩, ih fun y hy => h y (List.mem_cons_of_mem _ hy)⟩
theorem wt_encI (xs : List Nat) : wt (encI xs) = 4 * xs.length + 3 := by
  simp only [encI, wt]
  congr 1
  induction xs with
  | nil => rfl
  | cons x xs ih =>
    simp only [List.map_cons, wts, wt, ih, List.length_cons]
    omega
theorem repr_encW {p : Nat × List Nat} {f : Nat} (h1 : p.1 < 64) (h2 : ∀ x ∈ p.2, x < 64) (h3 : p.2.length ≤ 1000) : biV .repr [(encW p, f)] = some (.str (rp (encW p)), 2) := by
  have pl : (encW p).plain = true := by simp [encW]
  have dp : (encW p).deep ≤ 64 := by
    have := deep_encI p.2
    simp only [encW, T.deep, T.deeps]
    omega
  show (if (encW p).plain && decide ((encW p).deep ≤ 64) then (reprV (encW p)).map fun s => (T.str s, 2) else none) = _
  rw [if_pos, reprV_sm]
  · rfl
  · simp only [encW, sm, sms, sm_encI h2, Bool.and_true, Bool.and_eq_true, decide_eq_true_eq]
    omega
  · have := wt_encI p.2
    simp only [encW, wt, wts, this]
    unfold sizeL
    omega
  · rw [pl, Bool.true_and]
    exact decide_eq_true dp

/-! ### parts_by -/
section
variable {ups : List (List Nat)} {lets : List (List (List Nat))}
theorem first_marks {g : List T} (h : ∀ l ∈ lets, NmAB l) : num (lets.map fun l => rp (encL l)) = num lets := Om.num_map fun a ha b hb e => rp_ab_inj (h a ha) (h b hb) e
theorem word_small {m : List Nat} (hm : ∀ i, nth m i < 64) (hl : ∀ u ∈ ups, u.length ≤ 1000) : ∀ p ∈ wordsBy ups m, p.1 < 64 ∧ (∀ x ∈ p.2, x < 64) ∧ p.2.length ≤ 1000 := by
  intro p hp
  obtain ⟨q, hq, rfl⟩ := List.mem_map.mp hp
  refine ⟨hm _, fun x hx => ?_, ?_⟩
  · rw [wordOf, mem_sset] at hx
    obtain ⟨y, _, rfl⟩ := List.mem_map.mp hx
    exact hm _
  · have q2 := hl q.2 (List.of_mem_zip hq).2
    have : (sset (q.2.map (nth m))).length ≤ (q.2.map (nth m)).length := nodup_sub_length (rise_nodup (rise_sset _)) fun a ha => mem_sset.mp ha
    rw [List.length_map] at this
    exact Nat.le_trans this q2
theorem turn_words {m : List Nat} (hm : ∀ i, nth m i < 64) (hl : ∀ u ∈ ups, u.length ≤ 1000) : num ((wordsBy ups m).map fun p => rp (encW p)) = turnOf ups m := Om.num_map fun a ha b hb e => by
  obtain ⟨a1, a2, _⟩ := word_small hm hl a ha
  obtain ⟨b1, b2, _⟩ := word_small hm hl b hb
  exact rp_encW_inj ⟨a1, a2⟩ ⟨b1, b2⟩ e
theorem nth_small {α : Type} [DecidableEq α] {xs : List α} (h : xs.length ≤ 60) (i : Nat) : nth (num xs) i < 64 := by
  by_cases c : i < (num xs).length
  · rw [nth_eq c]
    have := mem_num.mp (List.getElem_mem c)
    have := cnt_le xs
    omega
  · have : (num xs).getD i 0 = 0 := by simp [List.getD_eq_getElem?_getD, List.getElem?_eq_none (Nat.le_of_not_lt c)]
    rw [nth, this]
    omega
/-- [marks[one] for one in up] -/
theorem see_comp {F : Call} {env : Env} {m : List Nat} {u : List Nat} {g : List T} {im io : Nat} {e : E} {v : Nat} (hu : eE F env e g = .ok (encI u, v) g) (hm : ∀ t : T, ((env.set io none).set io (some t))[im]? = some (some (encI m))) (ho : io < env.length) (hlt : ∀ x ∈ u, x < m.length) :
    eE F env (.comp (.idx (.var im) (.var io)) [io] (.one io) (.seq e) (.lit (.bl true))) g = .ok (encI (u.map (nth m)), 2) g := by
  refine (e_comp2 (e := tI) (xs := u) (r := fun x => tI (nth m x)) (n := fun _ => 0) (by simp [hu]) fun x hx => ⟨.inr rfl, ?_⟩).trans ?_
  · have h1 : (env.set io none)[im]? = (env.set io none)[im]? := rfl
    have h2 := hm (tI x)
    have hx' := hlt x hx
    have gx : m[x]? = some (nth m x) := by rw [nth_eq hx']; exact List.getElem?_eq_getElem hx'
    generalize nth m x = y at gx ⊢
    simp only [bind_one, wipe_one, x_lit, Out.bind_ok, truth_bl, x_idx, x_var, List.getD_eq_getElem?_getD, h2]
    simp [ho, gx]
  · rw [← mk_encI, List.map_map]
    rfl
end
end Fx.K53
end

section
set_option Elab.async false
set_option linter.all false
set_option maxRecDepth 100000
set_option maxHeartbeats 4000000
/-! Ei53: k53, parts_by, made_short. -/
namespace Fx.K53
open PySem PySem.Spec PyProof.Rows L2 Fx Fx.Om
section
variable {ups : List (List Nat)} {lets : List (List (List Nat))}
/-- what is needed of an order for its parts -/
structure Pt (ups : List (List Nat)) (lets : List (List (List Nat))) : Prop where
  n60 : ups.length ≤ 60
  ll : lets.length = ups.length
  nm : ∀ l ∈ lets, NmAB l
  lt : ∀ u ∈ ups, ∀ v ∈ u, v < ups.length
  u60 : ∀ u ∈ ups, u.length ≤ 60
theorem WF.pt (h : WF NmAB ups lets) (hl : ups.length ≤ 60) : Pt ups lets := ⟨hl, h.ll, h.names, h.lt, fun u hu => by
  have := nodup_sub_length (ys := List.range ups.length) (rise_nodup (h.rise u hu)) fun a ha => List.mem_range.mpr (h.lt u hu a ha)
  rw [List.length_range] at this
  omega⟩
theorem further_comp (k : Nat) (p : Pt ups lets) {m : List Nat} (hm : m.length = ups.length) {x3 x4 : Option T} (g : List T) :
    eE (eF P W (k + 1)) [some (encU ups), none, some (encI m), x3, none, none, none, none, none] (.comp (.tup (.cons (.idx (.var 2) (.var 6)) (.cons (.bi .sortSet (.cons (.comp (.idx (.var 2) (.var 8)) [8] (.one 8) (.seq (.var 7)) (.lit (.bl true))) .nil)) .nil))) [6, 7] (.many [6, 7]) (.enum (.var 0)) (.lit (.bl true))) g = .ok (.lst ((wordsBy ups m).map encW), 2) g := by
  refine (e_comp2 (e := fun p : Nat × List Nat => T.tup [.int (p.1 : Int), encI p.2]) (xs := (List.range ups.length).zip ups) (r := fun p => encW (wordOf m p)) (n := fun _ => 2) (enum_encU (v := 0) (by simp)) fun q hq => ⟨.inl rfl, ?_⟩).trans ?_
  · obtain ⟨w, u⟩ := q
    obtain ⟨hw, hu⟩ := mem_enum hq
    simp only at hw hu
    have um : u ∈ ups := List.mem_of_getElem? hu
    have u6 := p.u60 u um
    have gm : m[w]? = some (nth m w) := by rw [nth_eq (by omega)]; exact List.getElem?_eq_getElem (by omega)
    have hs := see_comp (F := eF P W (k + 1)) (env := [some (encU ups), none, some (encI m), x3, none, none, some (.int (w : Int)), some (encI u), none]) (m := m) (u := u) (g := g) (im := 2) (io := 8) (e := .var 7) (v := 0) (by simp) (by simp) (by simp) (fun x hx => by rw [hm]; exact p.lt u um x hx)
    have hss := sortSet_encI (xs := u.map (nth m)) (f := 2) (Nat.lt_of_le_of_lt (once_length_le _) (by rw [List.length_map]; omega)) (by rw [List.length_map]; omega)
    have ew : encW (wordOf m (w, u)) = .tup [tI (nth m w), encI (sset (u.map (nth m)))] := rfl
    rw [ew]
    generalize nth m w = y at gm ⊢
    simp [hs, hss, gm]
  · rw [wordsBy, List.map_map]
    rfl
theorem parts_loop28 (k : Nat) (p : Pt ups lets) (g : List T) : ∀ (n : Nat) (m : List Nat) (f : Nat) (x3 x4 : Option (T × Nat)), m.length = ups.length → num m = m → ups.length < n + Om.cnt m →
    whlL n (tst (eF P W (k + 1)) [] c28_0) (eSs (eF P W (k + 1)) W l28_0) [some (encU ups, 0), some (encM lets, 0), some (encI m, f), x3, x4, none, none, none, none] g = .ok (.rt (encI (iter ups ups.length m), 2)) g
  | 0, m, _, _, _, h, _, hn => by
    have := cnt_le m
    omega
  | n + 1, m, f, x3, x4, h, hc, hn => by
    have hsm : ∀ i, nth m i < 64 := fun i => by
      rw [← hc]
      exact nth_small (by rw [h]; exact p.n60) i
    have u1000 : ∀ u ∈ ups, u.length ≤ 1000 := fun u hu => Nat.le_trans (p.u60 u hu) (by decide)
    have e3 := further_comp k p h (x3 := x3.map (·.1)) (x4 := none) g
    have e4 : eE (eF P W (k + 1)) [none, none, none, some (.lst ((wordsBy ups m).map encW)), none, none, none, none, none] (.comp (.bi .repr (.cons (.var 8) .nil)) [8] (.one 8) (.seq (.var 3)) (.lit (.bl true))) g = .ok (encL ((wordsBy ups m).map fun p => rp (encW p)), 2) g := by
      refine (e_comp2 (e := encW) (xs := wordsBy ups m) (r := fun p => .str (rp (encW p))) (n := fun _ => 2) (by simp) fun q hq => ⟨.inl rfl, ?_⟩).trans ?_
      · obtain ⟨a1, a2, a3⟩ := word_small hsm u1000 q hq
        simp [repr_encW a1 a2 a3]
      · rw [← mk_encL, List.map_map]
        rfl
    have e5 := ev29 k ((wordsBy ups m).map fun p => rp (encW p)) (by rw [List.length_map, wordsBy_length]; have := p.n60; omega) g
    rw [turn_words hsm u1000] at e5
    have l1 := lenSet_encI (xs := turnOf ups m) (f := 0) (by rw [turnOf_length]; have := p.n60; omega)
    have l2 := lenSet_encI (xs := m) (f := 0) (by rw [h]; have := p.n60; omega)
    have go : tst (eF P W (k + 1)) [] c28_0 [some (encU ups, 0), some (encM lets, 0), some (encI m, f), x3, x4, none, none, none, none] g = .ok (true, [some (encU ups, 0), some (encM lets, 0), some (encI m, f), x3, x4, none, none, none, none]) g := by
      simp [tst, c28_0]
    have s1 : eS (eF P W (k + 1)) W (.set 3 [0, 2, 6, 7, 8] (.comp (.tup (.cons (.idx (.var 2) (.var 6)) (.cons (.bi .sortSet (.cons (.comp (.idx (.var 2) (.var 8)) [8] (.one 8) (.seq (.var 7)) (.lit (.bl true))) .nil)) .nil))) [6, 7] (.many [6, 7]) (.enum (.var 0)) (.lit (.bl true)))) [some (encU ups, 0), some (encM lets, 0), some (encI m, f), x3, x4, none, none, none, none] g = .ok (.nx [some (encU ups, 0), some (encM lets, 0), some (encI m, f), some (.lst ((wordsBy ups m).map encW), 2), x4, none, none, none, none]) g := by
      have e3' := further_comp k p h (x3 := none) (x4 := none) g
      simp [e3']
    by_cases e : Om.cnt (turnOf ups m) = Om.cnt m
    · have st := turnOf_stable h hc e
      have ei : iter ups ups.length m = m := iter_fixed st _
      rw [ei]
      refine whl_rt go ?_
      rw [l28_0, ss_nx (env' := _) (g' := g) s1,
        ss_nx (env' := [some (encU ups, 0), some (encM lets, 0), some (encI m, f), some (.lst ((wordsBy ups m).map encW), 2), some (encI (turnOf ups m), 2), none, none, none, none]) (g' := g) (by simp [e4, e5]),
        ss_rt (x := (encI (turnOf ups m), 2)) (g' := g) (by simp [l1, l2, e, ss_cons])]
      rw [st]
    · have c1 := cnt_turnOf_le h
      have ne : ((Om.cnt (turnOf ups m) : Int) == (Om.cnt m : Int)) = false := beq_eq_false_iff_ne.mpr (by omega)
      have ih := parts_loop28 k p g n (turnOf ups m) 0 (some (.lst ((wordsBy ups m).map encW), 2)) (some (encI (turnOf ups m), 0)) (by simp) (turnOf_canon _ _) (by omega)
      have ei : iter ups ups.length (turnOf ups m) = iter ups ups.length m := by
        have := iter_stable ups.length h hc (by omega)
        rw [← iter_succ] at this
        exact this
      rw [← ei, ← ih]
      refine whl_go go ?_
      rw [l28_0, ss_nx (env' := _) (g' := g) s1,
        ss_nx (env' := [some (encU ups, 0), some (encM lets, 0), some (encI m, f), some (.lst ((wordsBy ups m).map encW), 2), some (encI (turnOf ups m), 2), none, none, none, none]) (g' := g) (by simp [e4, e5]),
        ss_nx (env' := [some (encU ups, 0), some (encM lets, 0), some (encI m, f), some (.lst ((wordsBy ups m).map encW), 2), some (encI (turnOf ups m), 2), none, none, none, none]) (g' := g) (by simp [l1, l2, ne]),
        ss_nx (env' := [some (encU ups, 0), some (encM lets, 0), some (encI (turnOf ups m), 0), some (.lst ((wordsBy ups m).map encW), 2), some (encI (turnOf ups m), 0), none, none, none, none]) (g' := g) (by simp)]
      exact ss_nil
theorem ev28 (k : Nat) (p : Pt ups lets) (g : List T) : eF P W (k + 2) 28 [encU ups, encM lets] g = .ok (encI (marks ups lets), 2) g := by
  rw [uf28, b28_eq]
  have e1 : eE (eF P W (k + 1)) [none, some (encM lets), none, none, none, none, none, none, none] (.comp (.bi .repr (.cons (.var 5) .nil)) [5] (.one 5) (.seq (.var 1)) (.lit (.bl true))) g = .ok (encL (lets.map fun l => rp (encL l)), 2) g := by
    refine (e_comp2 (e := encL) (xs := lets) (r := fun l => .str (rp (encL l))) (n := fun _ => 2) (by simp) fun q hq => ⟨.inl rfl, ?_⟩).trans ?_
    · simp [repr_names (p.nm q hq)]
    · rw [← mk_encL, List.map_map]
      rfl
  have e2 := ev29 k (lets.map fun l => rp (encL l)) (by rw [List.length_map, p.ll]; have := p.n60; omega) g
  rw [first_marks (g := g) p.nm] at e2
  rw [ss_nx (env' := [some (encU ups, 0), some (encM lets, 0), some (encI (num lets), 2), none, none, none, none, none, none]) (g' := g) (by simp [e1, e2]),
    ss_rt (x := (encI (marks ups lets), 2)) (g' := g) (by
      rw [s_whl]
      exact parts_loop28 k p g W (num lets) 2 none none (by simp [p.ll]) (num_num _) (by have := p.n60; unfold W; omega))]
  simp
end
end Fx.K53
end

section
set_option Elab.async false
set_option linter.all false
set_option maxRecDepth 100000
set_option maxHeartbeats 4000000
/-! Ej53: k53, the parts, the order of the parts, alike roots. -/
namespace Fx.K53
open PySem PySem.Spec PyProof.Rows L2 Fx Fx.Om
section
variable {ups u1 u2 : List (List Nat)} {lets l1 l2 : List (List (List Nat))}
def partOf' (ups : List (List Nat)) (lets : List (List (List Nat))) (k : Nat) : List Nat := (List.range ups.length).filter fun w => nth (marks ups lets) w == k
def partsL (ups : List (List Nat)) (lets : List (List (List Nat))) : List (List Nat) := (List.range (many ups lets)).map (partOf' ups lets)
theorem idxOf_le {xs : List Nat} {a i : Nat} (h : xs[i]? = some a) : xs.idxOf a ≤ i := by
  induction xs generalizing i with
  | nil => simp at h
  | cons b r ih =>
    rw [List.idxOf_cons]
    by_cases e : b = a
    · simp [e]
    · have eb : (b == a) = false := beq_eq_false_iff_ne.mpr e
      rw [eb]
      cases i with
      | zero =>
        simp at h
        exact absurd h e
      | succ i =>
        have := ih (by simpa using h)
        show r.idxOf a + 1 ≤ i + 1
        omega
theorem part_head (h : lets.length = ups.length) {k : Nat} (hk : k < many ups lets) : (partOf' ups lets k)[0]? = some (rep ups lets k) := by
  have rl := rep_lt h hk
  have rm : rep ups lets k ∈ partOf' ups lets k := List.mem_filter.mpr ⟨List.mem_range.mpr rl, by rw [nth_rep hk]; simp⟩
  have rise : Rise (partOf' ups lets k) := (rise_range _).sublist List.filter_sublist
  obtain ⟨j, hj, e⟩ := List.mem_iff_getElem.mp rm
  have h0 : 0 < (partOf' ups lets k).length := by omega
  have m0 : (partOf' ups lets k)[0] ∈ partOf' ups lets k := List.getElem_mem h0
  obtain ⟨a1, a2⟩ := List.mem_filter.mp m0
  have a1 := List.mem_range.mp a1
  have a2 : nth (marks ups lets) (partOf' ups lets k)[0] = k := by simpa using a2
  have le : rep ups lets k ≤ (partOf' ups lets k)[0] := by
    refine idxOf_le ?_
    have a1' : (partOf' ups lets k)[0] < (marks ups lets).length := by rw [marks_length h]; exact a1
    rw [nth_eq a1'] at a2
    rw [List.getElem?_eq_getElem a1', a2]
  rw [List.getElem?_eq_getElem h0]
  congr 1
  by_cases z : j = 0
  · subst z; exact e
  · have := (List.pairwise_iff_getElem.mp rise) 0 j h0 hj (by omega)
    omega
theorem mark_get (p : Pt ups lets) {w : Nat} (hw : w < ups.length) : (marks ups lets)[w]? = some (nth (marks ups lets) w) := by
  have l := marks_length p.ll
  rw [nth_eq (by omega)]
  exact List.getElem?_eq_getElem (by omega)
/-- [world for world, mark in enumerate(marks) if mark == number] -/
theorem part_comp {F : Call} {env : Env} {g : List T} {a b c : Nat} {em : E} {v : Nat} (p : Pt ups lets) {k : Nat} (he : eE F env em g = .ok (encI (marks ups lets), v) g)
    (hw : ∀ t u : T, ((((env.set b none).set a none).set a (some t)).set b (some u))[a]? = some (some t)) (hm : ∀ t u : T, ((((env.set b none).set a none).set a (some t)).set b (some u))[b]? = some (some u))
    (hc : ∀ t u : T, ((((env.set b none).set a none).set a (some t)).set b (some u))[c]? = some (some (.int (k : Int)))) :
    eE F env (.comp (.var a) [a, b] (.many [a, b]) (.enum em) (.cmp .Eq (.var b) (.var c))) g = .ok (encI (partOf' ups lets k), 2) g := by
  refine (e_comp (e := fun p : Nat × Nat => T.tup [.int (p.1 : Int), tI p.2]) (xs := (List.range (marks ups lets).length).zip (marks ups lets)) (p := fun p => p.2 == k) (r := fun p => (tI p.1, 0)) (enum_encI he) fun q hq => ?_).trans ?_
  · obtain ⟨i, m⟩ := q
    have e1 : ((m : Int) == (k : Int)) = (m == k) := by
      by_cases z : m = k
      · simp [z]
      · have z' : ¬ (m : Int) = (k : Int) := by omega
        rw [beq_eq_false_iff_ne.mpr z, beq_eq_false_iff_ne.mpr z']
    simp only [wipe_two, bind_two, x_cmp, x_var, List.getD_eq_getElem?_getD, hw, hm, hc, Option.getD_some, Option.map_some, Out.of_some, Out.bind_ok, cmp_eq_int, truth_bl, e1]
    cases m == k <;> simp
  · rw [allFl_map fun _ _ => .inr rfl]
    have e1 : (List.range (marks ups lets).length).zip (marks ups lets) = (List.range ups.length).map fun w => (w, nth (marks ups lets) w) := by
      have l := marks_length p.ll
      apply List.ext_getElem
      · simp [l]
      · intro i x y
        have hi : i < ups.length := by simpa using y
        simp only [List.getElem_zip, List.getElem_range, List.getElem_map, Prod.mk.injEq, true_and]
        rw [nth_eq (by omega)]
    rw [e1, List.filter_map, List.map_map]
    rfl
theorem many_le' (p : Pt ups lets) : many ups lets ≤ 60 := Nat.le_trans (many_le p.ll) p.n60
theorem ev30 (k : Nat) (p : Pt ups lets) (g : List T) : eF P W (k + 3) 30 [encO ups lets] g = .ok (encU (partsL ups lets), 2) g := by
  rw [uf30]
  have l2 := lenSet_encI (xs := marks ups lets) (f := 0) (by rw [marks_length p.ll]; have := p.n60; omega)
  have hc : eE (eF P W (k + 2)) [none, some (encI (marks ups lets)), none, none, none] (.comp (.comp (.var 3) [3, 4] (.many [3, 4]) (.enum (.var 1)) (.cmp .Eq (.var 4) (.var 2))) [2] (.one 2) (.rng1 (.bi .lenSet (.cons (.var 1) .nil))) (.lit (.bl true))) g = .ok (encU (partsL ups lets), 2) g := by
    refine (e_comp2 (e := tI) (xs := List.range (many ups lets)) (r := fun i => encI (partOf' ups lets i)) (n := fun _ => 2) (rng_nat (n := many ups lets) (v := 2) (by simp [l2, many]) (Nat.le_trans (many_le' p) (by decide))) fun q hq => ⟨.inl rfl, ?_⟩).trans ?_
    · have := part_comp (F := eF P W (k + 2)) (env := [none, some (encI (marks ups lets)), some (tI q), none, none]) (g := g) (a := 3) (b := 4) (c := 2) (em := .var 1) (v := 0) p (k := q) (by simp) (by simp) (by simp) (by simp)
      simp [this]
    · rw [← mk_encU, partsL, List.map_map]
      rfl
  simp [b30, ss_cons, ev28 k p g, hc]
theorem ev31 (k : Nat) (h : WF NmAB ups lets) (hl : ups.length ≤ 60) (g : List T) : eF P W (k + 8) 31 [encO ups lets] g = .ok (encU (partsL ups lets), 2) g := by
  rw [uf31]
  simp [b31, ss_cons, ev18 k h hl g, ev30 (k + 4) (WF.pt h hl) g]
theorem parts_mem {q : List Nat} (h : q ∈ partsL ups lets) : ∃ k, k < many ups lets ∧ q = partOf' ups lets k := by
  obtain ⟨k, hk, rfl⟩ := List.mem_map.mp h
  exact ⟨k, List.mem_range.mp hk, rfl⟩
theorem once_see (p : Pt ups lets) {u : List Nat} (hu : u ∈ ups) (m : List Nat) : (once (u.map (nth m))).length < 64 := Nat.lt_of_le_of_lt (once_length_le _) (by rw [List.length_map]; have := p.u60 u hu; omega)
theorem ev32 (k : Nat) (h : WF NmAB ups lets) (hl : ups.length ≤ 60) (g : List T) : eF P W (k + 8) 32 [encO ups lets] g = .ok (encO (shortUps ups lets) (shortLets ups lets), 2) g := by
  have p := WF.pt h hl
  rw [uf32, b32]
  have c1 : eE (eF P W (k + 7)) [some (encO ups lets), none, some (encU (partsL ups lets)), some (encI (marks ups lets)), none, none] (.comp (.bi .sortSet (.cons (.comp (.idx (.var 3) (.var 5)) [5] (.one 5) (.seq (.idx (.idx (.var 0) (.lit (.int 0))) (.idx (.var 4) (.lit (.int 0))))) (.lit (.bl true))) .nil)) [4] (.one 4) (.seq (.var 2)) (.lit (.bl true))) g = .ok (encU (shortUps ups lets), 2) g := by
    have e0 : eE (eF P W (k + 7)) [some (encO ups lets), none, some (encU (partsL ups lets)), some (encI (marks ups lets)), none, none] (.comp (.bi .sortSet (.cons (.comp (.idx (.var 3) (.var 5)) [5] (.one 5) (.seq (.idx (.idx (.var 0) (.lit (.int 0))) (.idx (.var 4) (.lit (.int 0))))) (.lit (.bl true))) .nil)) [4] (.one 4) (.seq (.var 2)) (.lit (.bl true))) g = .ok (.lst ((List.range (many ups lets)).map fun i => encI (sset ((upAt ups (rep ups lets i)).map (nth (marks ups lets))))), 2) g := by
      refine e_comp2 (e := fun i => encI (partOf' ups lets i)) (xs := List.range (many ups lets)) (r := fun i => encI (sset ((upAt ups (rep ups lets i)).map (nth (marks ups lets))))) (n := fun _ => 2) (by simp [partsL]) fun i hi => ⟨.inl rfl, ?_⟩
      have hi := List.mem_range.mp hi
      have ph := part_head h.ll hi
      have rl := rep_lt h.ll hi
      obtain ⟨u, gu, eu⟩ := up_get rl
      have um : u ∈ ups := List.mem_of_getElem? gu
      rw [eu]
      have hs := see_comp (F := eF P W (k + 7)) (env := [some (encO ups lets), none, some (encU (partsL ups lets)), some (encI (marks ups lets)), some (encI (partOf' ups lets i)), none]) (m := marks ups lets) (u := u) (g := g) (im := 3) (io := 5) (e := .idx (.idx (.var 0) (.lit (.int 0))) (.idx (.var 4) (.lit (.int 0)))) (v := 0) (by simp [idx0_encI, ph, gu]) (by simp) (by simp) (fun x hx => by rw [marks_length h.ll]; exact h.lt u um x hx)
      have hss := sortSet_encI (xs := u.map (nth (marks ups lets))) (f := 2) (once_see p um _) (by rw [List.length_map]; have := p.u60 u um; omega)
      simp [hs, hss]
    rw [e0, ← mk_encU, shortUps, List.map_map]
    rfl
  have c2 : eE (eF P W (k + 7)) [some (encO ups lets), none, some (encU (partsL ups lets)), none, none, none] (.comp (.bi .lis (.cons (.idx (.idx (.var 0) (.lit (.int 1))) (.idx (.var 4) (.lit (.int 0)))) .nil)) [4] (.one 4) (.seq (.var 2)) (.lit (.bl true))) g = .ok (encM (shortLets ups lets), 2) g := by
    have e0 : eE (eF P W (k + 7)) [some (encO ups lets), none, some (encU (partsL ups lets)), none, none, none] (.comp (.bi .lis (.cons (.idx (.idx (.var 0) (.lit (.int 1))) (.idx (.var 4) (.lit (.int 0)))) .nil)) [4] (.one 4) (.seq (.var 2)) (.lit (.bl true))) g = .ok (.lst ((List.range (many ups lets)).map fun i => encL (letAt lets (rep ups lets i))), 2) g := by
      refine e_comp2 (e := fun i => encI (partOf' ups lets i)) (xs := List.range (many ups lets)) (r := fun i => encL (letAt lets (rep ups lets i))) (n := fun _ => 2) (by simp [partsL]) fun i hi => ⟨.inl rfl, ?_⟩
      have hi := List.mem_range.mp hi
      have ph := part_head h.ll hi
      have rl := rep_lt h.ll hi
      obtain ⟨u, gu, eu⟩ := let_get (l := lets) (x := rep ups lets i) (by rw [h.ll]; exact rl)
      rw [eu]
      simp [idx0_encI, ph, gu]
    rw [e0, ← mk_encM, shortLets, List.map_map]
    rfl
  rw [ss_nx (env' := [some (encO ups lets, 0), none, none, none, none, none]) (g' := g) (by simp [ev18 k h hl g]),
    ss_nx (env' := [some (encO ups lets, 0), none, some (encU (partsL ups lets), 0), some (encI (marks ups lets), 0), none, none]) (g' := g) (by simp [ev30 (k + 4) p g, ev28 (k + 5) p g, norm]),
    ss_nx (env' := [some (encO ups lets, 0), some (encU (shortUps ups lets), 2), some (encU (partsL ups lets), 0), some (encI (marks ups lets), 0), none, none]) (g' := g) (by simp [c1]),
    ss_rt (x := (encO (shortUps ups lets) (shortLets ups lets), 2)) (g' := g) (by simp [c2]; rfl)]
  simp
theorem pt_bes (h1 : WF NmAB u1 l1) (h2 : WF NmAB u2 l2) (hl : u1.length + u2.length + 1 ≤ 60) : Pt (besUps u1 u2) (besLets l1 l2) := WF.pt (bes_wf h1 h2 (.inl rfl)) (by simpa using hl)
theorem ev33 (k : Nat) (h1 : WF NmAB u1 l1) (h2 : WF NmAB u2 l2) (hl : u1.length + u2.length + 1 ≤ 60) (g : List T) :
    eF P W (k + 8) 33 [encO u1 l1, encO u2 l2] g = .ok (.bl (nth (marks (besUps u1 u2) (besLets l1 l2)) 1 == nth (marks (besUps u1 u2) (besLets l1 l2)) (u1.length + 1)), 2) g := by
  rw [uf33, b33]
  have p := pt_bes h1 h2 hl
  have q1 := h1.pos
  have q2 := h2.pos
  have e := ev26 (k + 5) (u1 := u1) (u2 := u2) (l1 := l1) (l2 := l2) (by omega) (by omega) (by rw [h1.ll]; omega) (by rw [h2.ll]; omega) g
  have g1 := mark_get p (w := 1) (by rw [besUps_length]; omega)
  have g2 := mark_get p (w := u1.length + 1) (by rw [besUps_length]; omega)
  rw [ss_nx (env' := [some (encO u1 l1, 0), some (encO u2 l2, 0), none, none, none]) (g' := g) (by simp [ev18 k h1 (by omega) g]),
    ss_nx (env' := [some (encO u1 l1, 0), some (encO u2 l2, 0), none, none, none]) (g' := g) (by simp [ev18 k h2 (by omega) g]),
    ss_nx (env' := [some (encO u1 l1, 0), some (encO u2 l2, 0), none, some (encU (besUps u1 u2), 0), some (encM (besLets l1 l2), 0)]) (g' := g) (by simp [e]),
    ss_nx (env' := [some (encO u1 l1, 0), some (encO u2 l2, 0), some (encI (marks (besUps u1 u2) (besLets l1 l2)), 2), some (encU (besUps u1 u2), 0), some (encM (besLets l1 l2), 0)]) (g' := g) (by simp [ev28 (k + 5) p g])]
  have i1 : ∀ f, idxV g (encI (marks (besUps u1 u2) (besLets l1 l2))) (.int 1) f = some (tI (nth (marks (besUps u1 u2) (besLets l1 l2)) 1), if f = 2 then 2 else 0) := fun f => by
    have := idx_encI (g := g) (f := f) (x := marks (besUps u1 u2) (besLets l1 l2)) (i := 1)
    rw [g1] at this
    exact this
  have i2 : ∀ f, idxV g (encI (marks (besUps u1 u2) (besLets l1 l2))) (.int ((u1.length : Int) + 1)) f = some (tI (nth (marks (besUps u1 u2) (besLets l1 l2)) (u1.length + 1)), if f = 2 then 2 else 0) := fun f => by
    have := idx_encI (g := g) (f := f) (x := marks (besUps u1 u2) (besLets l1 l2)) (i := u1.length + 1)
    rw [g2] at this
    exact this
  have ei : ∀ a b : Nat, ((a : Int) == (b : Int)) = (a == b) := fun a b => by
    by_cases z : a = b
    · simp [z]
    · have z' : ¬ (a : Int) = (b : Int) := by omega
      rw [beq_eq_false_iff_ne.mpr z, beq_eq_false_iff_ne.mpr z']
  generalize nth (marks (besUps u1 u2) (besLets l1 l2)) 1 = a at i1 ⊢
  generalize nth (marks (besUps u1 u2) (besLets l1 l2)) (u1.length + 1) = b at i2 ⊢
  simp [ss_cons, i1, i2, ei]
end
end Fx.K53
end

section
set_option Elab.async false
set_option linter.all false
set_option maxRecDepth 100000
set_option maxHeartbeats 4000000
/-! Ek53: k53, the law's own marks, its own reading of formulas, its own likeness. -/
namespace Fx.K53
open PySem PySem.Spec PyProof.Rows L2 Fx Fx.Om
section
variable {ups : List (List Nat)} {lets : List (List (List Nat))}
theorem find_str (w : List Nat) : ∀ ks : List (List Nat), w ∈ ks → (ks.map T.str).findIdx? (fun z => z.eqv (.str w)) = some (ixO ks w)
  | [], h => by cases h
  | a :: ks, h => by
    rw [List.map_cons, List.findIdx?_cons, eqv_str', ixO_cons]
    by_cases e : a = w
    · simp [e]
    · have m : w ∈ ks := (List.mem_cons.mp h).resolve_left fun z => e z.symm
      rw [find_str w ks m]
      simp [e]
theorem index_encL {w : List Nat} {ks : List (List Nat)} {g : List T} {f : Nat} (m : w ∈ ks) : methV g .index (encL ks) [(.str w, f)] = some (tI (ixO ks w), 2) := by
  show (if (T.str w).plain && T.plains (ks.map T.str) && decide ((T.str w).deep ≤ 64) && decide (T.deeps (ks.map T.str) < 64) then ((ks.map T.str).findIdx? fun z => z.eqv (.str w)).map fun (i : Nat) => (T.int (i : Int), 2) else none) = _
  have h1 : T.plains (ks.map T.str) = true := plains_map fun _ _ => rfl
  have h2 : T.deeps (ks.map T.str) ≤ 0 := deeps_map fun _ _ => Nat.le_refl _
  rw [if_pos, find_str w ks m]
  · rfl
  · rw [h1]
    simp [T.deep]
    omega
theorem add_str {w : List Nat} {ks : List (List Nat)} {f1 f2 : Nat} (h : ks.length ≤ 10000) : binV .add (encL ks) (.lst [.str w]) f1 f2 = some (encL (ks ++ [w]), fl2 f1 f2) := by
  show binV .add (.lst (ks.map T.str)) (.lst [.str w]) f1 f2 = _
  rw [add_lst (by simp; omega)]
  simp [encL]
theorem add_nilL {ks : List (List Nat)} {f1 f2 : Nat} (h : ks.length ≤ 10000) : binV .add (encL ks) (.lst []) f1 f2 = some (encL ks, fl2 f1 f2) := by
  show binV .add (.lst (ks.map T.str)) (.lst []) f1 f2 = _
  rw [add_lst (by simp; omega)]
  simp [encL]
theorem ev48 (k : Nat) (ws : List (List Nat)) (hl : ws.length ≤ 1000) (g : List T) : eF P W (k + 1) 48 [encL ws] g = .ok (encI (num ws), 2) g := by
  rw [uf48, b48_eq, ss_nx (env' := [some (encL ws, 0), some (encL [], 2), none]) (g' := g) (by simp [encL])]
  have loop := forL_map (b := turnF (eF P W k) W (.one 2) l48_0) (e := T.str) (I := fun don env g' => g' = g ∧ ∃ f x, env = [some (encL ws, 0), some (encL (once don), f), x])
    (Q := fun o => ∃ f x, o = .ok (.nx [some (encL ws, 0), some (encL (once ws), f), x]) g) ws [] [some (encL ws, 0), some (encL [], 2), none] g ⟨rfl, _, none, rfl⟩ (fun pre p post env g' eq hI => ?_) (fun env g' hI => ?_)
  · obtain ⟨f, x, e1⟩ := loop
    rw [ss_nx (env' := [some (encL ws, 0), some (encL (once ws), f), x]) (g' := g) (by
      rw [s_for]
      simp [e1])]
    have hc : eE (eF P W k) [some (encL ws), some (encL (once ws)), (x.map (·.1))] (.comp (.meth .index (.var 1) (.cons (.var 2) .nil)) [2] (.one 2) (.seq (.var 0)) (.lit (.bl true))) g = .ok (encI (num ws), 2) g := by
      refine (e_comp2 (e := T.str) (xs := ws) (r := fun w => tI (ixO (once ws) w)) (n := fun _ => 2) (by simp) fun w hw => ⟨.inl rfl, ?_⟩).trans ?_
      · simp [index_encL (Om.mem_once.mpr hw)]
      · rw [num_ixO, ← mk_encI, List.map_map]
        rfl
    simp [ss_cons, hc]
  · obtain ⟨rfl, f, x, rfl⟩ := hI
    rw [List.nil_append] at eq
    have plen : (once pre).length ≤ 1000 := by
      have := congrArg List.length eq
      have := once_length_le pre
      simp at *
      omega
    by_cases c : p ∈ pre
    · refine ⟨[some (encL ws, 0), some (encL (once pre), 1), some (.str p, 0)], g', .inl ?_, rfl, _, _, by rw [once_snoc, if_pos c]⟩
      have c' : p ∈ once pre := Om.mem_once.mpr c
      simp only [turnF, bindV_one, l48_0, ss_cons]
      simp [c', add_nilL (show (once pre).length ≤ 10000 by omega)]
    · refine ⟨[some (encL ws, 0), some (encL (once pre ++ [p]), 1), some (.str p, 0)], g', .inl ?_, rfl, _, _, by rw [once_snoc, if_neg c]⟩
      have c' : p ∉ once pre := fun z => c (Om.mem_once.mp z)
      simp only [turnF, bindV_one, l48_0, ss_cons]
      simp [c', add_str (show (once pre).length ≤ 10000 by omega)]
  · obtain ⟨rfl, f, x, rfl⟩ := hI
    exact ⟨f, x, by rw [List.nil_append]⟩
theorem ev49 (k : Nat) (p : Pt ups lets) (hp : 0 < ups.length) (g : List T) : eF P W (k + 2) 49 [encO ups lets] g = .ok (encI (marks ups lets), 2) g := by
  rw [uf49, b49_eq]
  have e1 : eE (eF P W (k + 1)) [some (encO ups lets), none, none, none, none, none, none] (.comp (.bi .repr (.cons (.var 3) .nil)) [3] (.one 3) (.seq (.idx (.var 0) (.lit (.int 1)))) (.lit (.bl true))) g = .ok (encL (lets.map fun l => rp (encL l)), 2) g := by
    refine (e_comp2 (e := encL) (xs := lets) (r := fun l => .str (rp (encL l))) (n := fun _ => 2) (by simp) fun q hq => ⟨.inl rfl, ?_⟩).trans ?_
    · simp [repr_names (p.nm q hq)]
    · rw [← mk_encL, List.map_map]
      rfl
  have e2 := ev48 k (lets.map fun l => rp (encL l)) (by rw [List.length_map, p.ll]; have := p.n60; omega) g
  rw [first_marks (g := g) p.nm] at e2
  rw [ss_nx (env' := [some (encO ups lets, 0), some (encI (num lets), 2), none, none, none, none, none]) (g' := g) (by simp [e1, e2])]
  have u1000 : ∀ u ∈ ups, u.length ≤ 1000 := fun u hu => Nat.le_trans (p.u60 u hu) (by decide)
  have loop := forL_map (b := turnF (eF P W (k + 1)) W (.one 2) l49_0) (e := tI) (I := fun don env g' => g' = g ∧ ∃ f x, env = [some (encO ups lets, 0), some (encI (iter ups don.length (num lets)), f), x, none, none, none, none] ∧ (f = 2 ∨ don = []))
    (Q := fun o => ∃ f x, o = .ok (.nx [some (encO ups lets, 0), some (encI (iter ups ups.length (num lets)), f), x, none, none, none, none]) g ∧ (f = 2 ∨ ups.length = 0)) (List.range ups.length) [] [some (encO ups lets, 0), some (encI (num lets), 0), none, none, none, none, none] g ⟨rfl, _, none, rfl, .inr rfl⟩ (fun pre q post env g' eq hI => ?_) (fun env g' hI => ?_)
  · obtain ⟨f, x, e3, hf⟩ := loop
    rw [ss_nx (env' := [some (encO ups lets, 0), some (encI (iter ups ups.length (num lets)), f), x, none, none, none, none]) (g' := g) (by
      rw [s_for, rng_nat (n := ups.length) (v := 2) (by simp [p.ll]) (by have := p.n60; omega), Out.bind_ok]
      simpa using e3)]
    have := hf.resolve_right (by omega)
    subst this
    simp [ss_cons]
    rfl
  · obtain ⟨rfl, f, x, rfl, _⟩ := hI
    have ml : (iter ups pre.length (num lets)).length = ups.length := iter_length _ (by simp [p.ll])
    have mc : num (iter ups pre.length (num lets)) = iter ups pre.length (num lets) := iter_canon _ (num_num _)
    have hsm : ∀ i, nth (iter ups pre.length (num lets)) i < 64 := fun i => by
      rw [← mc]
      exact nth_small (by rw [ml]; exact p.n60) i
    refine ⟨[some (encO ups lets, 0), some (encI (iter ups (pre.length + 1) (num lets)), 2), some (tI q, 2), none, none, none, none], g', .inl ?_, rfl, 2, some (tI q, 2), by simp, .inl rfl⟩
    rw [iter_succ]
    generalize iter ups pre.length (num lets) = m at ml hsm ⊢
    have e4 : eE (eF P W (k + 1)) [some (encO ups lets), some (encI m), none, none, none, none, none] (.comp (.bi .repr (.cons (.tup (.cons (.idx (.var 1) (.var 4)) (.cons (.bi .sortSet (.cons (.comp (.idx (.var 1) (.var 6)) [6] (.one 6) (.seq (.var 5)) (.lit (.bl true))) .nil)) .nil))) .nil)) [4, 5] (.many [4, 5]) (.enum (.idx (.var 0) (.lit (.int 0)))) (.lit (.bl true))) g' = .ok (encL ((wordsBy ups m).map fun p => rp (encW p)), 2) g' := by
      refine (e_comp2 (e := fun p : Nat × List Nat => T.tup [.int (p.1 : Int), encI p.2]) (xs := (List.range ups.length).zip ups) (r := fun p => .str (rp (encW (wordOf m p)))) (n := fun _ => 2) (enum_encU (v := 0) (by simp)) fun r hr => ⟨.inl rfl, ?_⟩).trans ?_
      · obtain ⟨w, u⟩ := r
        obtain ⟨hw, hu⟩ := mem_enum hr
        simp only at hw hu
        have um : u ∈ ups := List.mem_of_getElem? hu
        have u6 := p.u60 u um
        have gm : m[w]? = some (nth m w) := by rw [nth_eq (by omega)]; exact List.getElem?_eq_getElem (by omega)
        have hs := see_comp (F := eF P W (k + 1)) (env := [some (encO ups lets), some (encI m), none, none, some (.int (w : Int)), some (encI u), none]) (m := m) (u := u) (g := g') (im := 1) (io := 6) (e := .var 5) (v := 0) (by simp) (by simp) (by simp) (fun x hx => by rw [ml]; exact p.lt u um x hx)
        have hss := sortSet_encI (xs := u.map (nth m)) (f := 2) (Nat.lt_of_le_of_lt (once_length_le _) (by rw [List.length_map]; omega)) (by rw [List.length_map]; omega)
        have ew : encW (wordOf m (w, u)) = .tup [tI (nth m w), encI (sset (u.map (nth m)))] := rfl
        obtain ⟨a1, a2, a3⟩ := word_small hsm u1000 (wordOf m (w, u)) (List.mem_map.mpr ⟨_, hr, rfl⟩)
        have er := repr_encW (f := 2) a1 a2 a3
        rw [ew] at er ⊢
        generalize nth m w = y at gm er ⊢
        simp [hs, hss, gm, er]
      · rw [← mk_encL, wordsBy, List.map_map, List.map_map]
        rfl
    have e5 := ev48 k ((wordsBy ups m).map fun p => rp (encW p)) (by rw [List.length_map, wordsBy_length]; have := p.n60; omega) g'
    rw [turn_words hsm u1000] at e5
    simp only [turnF, bindV_one, l49_0, ss_cons]
    simp [e4, e5]
  · obtain ⟨rfl, f, x, rfl, h⟩ := hI
    refine ⟨f, x, by simp, h.imp id fun z => ?_⟩
    have := congrArg List.length z
    simpa using this
theorem ev41 (h : lets.length = ups.length) (hlt : ∀ u ∈ ups, ∀ v ∈ u, v < ups.length) (hn : ups.length ≤ 1000) (g : List T) : ∀ (f : Fm) (K : Nat), dep f + 1 ≤ K → eF P W K 41 [encO ups lets, encF f] g = .ok (encB (tv ups lets f), 2) g
  | .is s, K, hK => by
    obtain ⟨k, rfl⟩ : ∃ k, K = k + 1 := ⟨K - 1, by omega⟩
    have hc : eE (eF P W k) [none, some (encF (.is s)), none, some (encM lets), none, none, none, none, none, none] (.comp (.cmp .In (.idx (.var 1) (.lit (.int 1))) (.var 7)) [7] (.one 7) (.seq (.var 3)) (.lit (.bl true))) g = .ok (.lst (lets.map fun l => .bl (decide (s ∈ l))), 2) g :=
      e_comp2 (e := encL) (n := fun _ => 2) (by simp) fun l hl => ⟨.inl rfl, by simp [encF]⟩
    rw [uf41, b41, ss_nx (env' := [some (encO ups lets, 0), some (encF (.is s), 0), some (encU ups, 0), some (encM lets, 0), none, none, none, none, none, none]) (g' := g) (by simp),
      ss_rt (x := (.lst (lets.map fun l => .bl (decide (s ∈ l))), 2)) (g' := g) (by simp [encF, ss_cons] at hc ⊢; simp [hc])]
    simp [lst_bl, tv]
  | .no, K, hK => by
    obtain ⟨k, rfl⟩ : ∃ k, K = k + 1 := ⟨K - 1, by omega⟩
    have hc : eE (eF P W k) [none, none, some (encU ups), none, none, none, none, none, none, none] (.comp (.lit (.bl false)) [6] (.one 6) (.seq (.var 2)) (.lit (.bl true))) g = .ok (.lst (ups.map fun l => .bl false), 2) g :=
      e_comp2 (e := encI) (n := fun _ => 2) (by simp) fun l hl => ⟨.inl rfl, by simp⟩
    rw [uf41, b41, ss_nx (env' := [some (encO ups lets, 0), some (encF .no, 0), some (encU ups, 0), some (encM lets, 0), none, none, none, none, none, none]) (g' := g) (by simp),
      ss_nx (env' := [some (encO ups lets, 0), some (encF .no, 0), some (encU ups, 0), some (encM lets, 0), none, none, none, none, none, none]) (g' := g) (by simp [encF]),
      ss_rt (x := (.lst (ups.map fun l => .bl false), 2)) (g' := g) (by simp [encF, ss_cons, hc])]
    simp [lst_bl, tv]
  | .and a b, K, hK => by
    obtain ⟨k, rfl⟩ : ∃ k, K = k + 1 := ⟨K - 1, by omega⟩
    have ha := ev41 h hlt hn g a k (by simp only [dep] at hK; omega)
    have hb := ev41 h hlt hn g b k (by simp only [dep] at hK; omega)
    have hc : eE (eF P W k) [none, none, some (encU ups), none, some (encB (tv ups lets a)), some (encB (tv ups lets b)), none, none, none, none] (.comp (.and (.idx (.var 4) (.var 8)) (.idx (.var 5) (.var 8))) [8] (.one 8) (.rng1 (.bi .len (.cons (.var 2) .nil))) (.lit (.bl true))) g = .ok (.lst ((List.range ups.length).map fun w => .bl (tvAt ups lets a w && tvAt ups lets b w)), 2) g :=
      e_comp2 (e := tI) (n := fun _ => 0) (rng_nat (v := 2) (by simp) (by omega)) fun w hw => ⟨.inr rfl, by
        have hw := List.mem_range.mp hw
        have ga := tv_get h a hw
        have gb := tv_get h b hw
        generalize tvAt ups lets a w = va at ga ⊢
        generalize tvAt ups lets b w = vb at gb ⊢
        cases va <;> simp [ga, gb]⟩
    rw [uf41, b41, ss_nx (env' := [some (encO ups lets, 0), some (encF (.and a b), 0), some (encU ups, 0), some (encM lets, 0), none, none, none, none, none, none]) (g' := g) (by simp),
      ss_nx (env' := [some (encO ups lets, 0), some (encF (.and a b), 0), some (encU ups, 0), some (encM lets, 0), none, none, none, none, none, none]) (g' := g) (by simp [encF]),
      ss_nx (env' := [some (encO ups lets, 0), some (encF (.and a b), 0), some (encU ups, 0), some (encM lets, 0), none, none, none, none, none, none]) (g' := g) (by simp [encF]),
      ss_nx (env' := [some (encO ups lets, 0), some (encF (.and a b), 0), some (encU ups, 0), some (encM lets, 0), some (encB (tv ups lets a), 0), some (encB (tv ups lets b), 0), none, none, none, none]) (g' := g) (by simp [encF, ha, hb, norm, flat_encF]),
      ss_rt (x := (.lst ((List.range ups.length).map fun w => .bl (tvAt ups lets a w && tvAt ups lets b w)), 2)) (g' := g) (by simp [encF, ss_cons, hc])]
    simp [lst_bl, tv]
  | .or a b, K, hK => by
    obtain ⟨k, rfl⟩ : ∃ k, K = k + 1 := ⟨K - 1, by omega⟩
    have ha := ev41 h hlt hn g a k (by simp only [dep] at hK; omega)
    have hb := ev41 h hlt hn g b k (by simp only [dep] at hK; omega)
    have hc : eE (eF P W k) [none, none, some (encU ups), none, some (encB (tv ups lets a)), some (encB (tv ups lets b)), none, none, none, none] (.comp (.or (.idx (.var 4) (.var 8)) (.idx (.var 5) (.var 8))) [8] (.one 8) (.rng1 (.bi .len (.cons (.var 2) .nil))) (.lit (.bl true))) g = .ok (.lst ((List.range ups.length).map fun w => .bl (tvAt ups lets a w || tvAt ups lets b w)), 2) g :=
      e_comp2 (e := tI) (n := fun _ => 0) (rng_nat (v := 2) (by simp) (by omega)) fun w hw => ⟨.inr rfl, by
        have hw := List.mem_range.mp hw
        have ga := tv_get h a hw
        have gb := tv_get h b hw
        generalize tvAt ups lets a w = va at ga ⊢
        generalize tvAt ups lets b w = vb at gb ⊢
        cases va <;> simp [ga, gb]⟩
    rw [uf41, b41, ss_nx (env' := [some (encO ups lets, 0), some (encF (.or a b), 0), some (encU ups, 0), some (encM lets, 0), none, none, none, none, none, none]) (g' := g) (by simp),
      ss_nx (env' := [some (encO ups lets, 0), some (encF (.or a b), 0), some (encU ups, 0), some (encM lets, 0), none, none, none, none, none, none]) (g' := g) (by simp [encF]),
      ss_nx (env' := [some (encO ups lets, 0), some (encF (.or a b), 0), some (encU ups, 0), some (encM lets, 0), none, none, none, none, none, none]) (g' := g) (by simp [encF]),
      ss_nx (env' := [some (encO ups lets, 0), some (encF (.or a b), 0), some (encU ups, 0), some (encM lets, 0), some (encB (tv ups lets a), 0), some (encB (tv ups lets b), 0), none, none, none, none]) (g' := g) (by simp [encF, ha, hb, norm, flat_encF]),
      ss_nx (env' := [some (encO ups lets, 0), some (encF (.or a b), 0), some (encU ups, 0), some (encM lets, 0), some (encB (tv ups lets a), 0), some (encB (tv ups lets b), 0), none, none, none, none]) (g' := g) (by simp [encF]),
      ss_rt (x := (.lst ((List.range ups.length).map fun w => .bl (tvAt ups lets a w || tvAt ups lets b w)), 2)) (g' := g) (by simp [encF, ss_cons, hc])]
    simp [lst_bl, tv]
  | .thn a b, K, hK => by
    obtain ⟨k, rfl⟩ : ∃ k, K = k + 1 := ⟨K - 1, by omega⟩
    have ha := ev41 h hlt hn g a k (by simp only [dep] at hK; omega)
    have hb := ev41 h hlt hn g b k (by simp only [dep] at hK; omega)
    have ci : ∀ u ∈ ups, eE (eF P W k) [none, none, some (encU ups), none, some (encB (tv ups lets a)), some (encB (tv ups lets b)), some (encI u), none, none, none] (.comp (.var 9) [9] (.one 9) (.seq (.var 6)) (.and (.idx (.var 4) (.var 9)) (.not (.idx (.var 5) (.var 9))))) g = .ok (encI (u.filter fun x => tvAt ups lets a x && !tvAt ups lets b x), 2) g := fun u hu => by
      refine (e_comp (e := tI) (xs := u) (p := fun x => tvAt ups lets a x && !tvAt ups lets b x) (r := fun x => (tI x, 0)) (by simp) fun x hx => ?_).trans ?_
      · have hx' := hlt u hu x hx
        have ga := tv_get h a hx'
        have gb := tv_get h b hx'
        generalize tvAt ups lets a x = va at ga ⊢
        generalize tvAt ups lets b x = vb at gb ⊢
        cases va <;> simp [ga, gb] <;> cases vb <;> simp
      · rw [allFl_map fun _ _ => .inr rfl]
        rfl
    have hc : eE (eF P W k) [none, none, some (encU ups), none, some (encB (tv ups lets a)), some (encB (tv ups lets b)), none, none, none, none] (.comp (.cmp .Eq (.comp (.var 9) [9] (.one 9) (.seq (.var 6)) (.and (.idx (.var 4) (.var 9)) (.not (.idx (.var 5) (.var 9))))) (.lst .nil)) [6] (.one 6) (.seq (.var 2)) (.lit (.bl true))) g = .ok (.lst (ups.map fun u => .bl (u.filter fun x => tvAt ups lets a x && !tvAt ups lets b x).isEmpty), 2) g :=
      e_comp2 (e := encI) (n := fun _ => 2) (by simp) fun u hu => ⟨.inl rfl, by simp only [bind_one, wipe_one, List.set_cons_succ, List.set_cons_zero, x_lit, Out.bind_ok, truth_bl, x_cmp, ci u hu]; simp⟩
    rw [uf41, b41, ss_nx (env' := [some (encO ups lets, 0), some (encF (.thn a b), 0), some (encU ups, 0), some (encM lets, 0), none, none, none, none, none, none]) (g' := g) (by simp),
      ss_nx (env' := [some (encO ups lets, 0), some (encF (.thn a b), 0), some (encU ups, 0), some (encM lets, 0), none, none, none, none, none, none]) (g' := g) (by simp [encF]),
      ss_nx (env' := [some (encO ups lets, 0), some (encF (.thn a b), 0), some (encU ups, 0), some (encM lets, 0), none, none, none, none, none, none]) (g' := g) (by simp [encF]),
      ss_nx (env' := [some (encO ups lets, 0), some (encF (.thn a b), 0), some (encU ups, 0), some (encM lets, 0), some (encB (tv ups lets a), 0), some (encB (tv ups lets b), 0), none, none, none, none]) (g' := g) (by simp [encF, ha, hb, norm, flat_encF]),
      ss_nx (env' := [some (encO ups lets, 0), some (encF (.thn a b), 0), some (encU ups, 0), some (encM lets, 0), some (encB (tv ups lets a), 0), some (encB (tv ups lets b), 0), none, none, none, none]) (g' := g) (by simp [encF]),
      ss_nx (env' := [some (encO ups lets, 0), some (encF (.thn a b), 0), some (encU ups, 0), some (encM lets, 0), some (encB (tv ups lets a), 0), some (encB (tv ups lets b), 0), none, none, none, none]) (g' := g) (by simp [encF]),
      ss_rt (x := (.lst (ups.map fun u => .bl (u.filter fun x => tvAt ups lets a x && !tvAt ups lets b x).isEmpty), 2)) (g' := g) (by simp [encF, hc])]
    rw [lst_bl, filt_thn]
    simp
end
end Fx.K53
end

section
set_option Elab.async false
set_option linter.all false
set_option maxRecDepth 100000
set_option maxHeartbeats 4000000
/-! El53: k53, the law's own judge of orders. -/
namespace Fx.K53
open PySem PySem.Spec PyProof.Rows L2 Fx Fx.Om
/-! ### the law's likeness of a thing with itself -/
mutual
/-- lists of few things -/
def okL : T → Bool
  | .lst ts => decide (ts.length ≤ 1000) && okLs ts
  | .tup ts => decide (ts.length ≤ 1000) && okLs ts
  | .non => true
  | .bl _ => true
  | .int _ => true
  | .str _ => true
  | _ => false
def okLs : List T → Bool
  | [] => true
  | t :: ts => okL t && okLs ts
end
theorem okLs_mem : ∀ {ts : List T}, okLs ts = true → ∀ t ∈ ts, okL t = true
  | [], _, t, h => by cases h
  | a :: r, h, t, m => by
    simp only [okLs, Bool.and_eq_true] at h
    rcases List.mem_cons.mp m with rfl | m
    · exact h.1
    · exact okLs_mem h.2 t m
theorem deeps_mem : ∀ {ts : List T}, ∀ t ∈ ts, t.deep ≤ T.deeps ts
  | [], t, h => by cases h
  | a :: r, t, m => by
    simp only [T.deeps]
    rcases List.mem_cons.mp m with rfl | m
    · exact Nat.le_max_left _ _
    · exact Nat.le_trans (deeps_mem t m) (Nat.le_max_right _ _)
theorem ev39 : ∀ (n : Nat) (t : T) (K : Nat) (g : List T), okL t = true → t.deep ≤ n → n + 1 ≤ K → eF P W K 39 [t, t] g = .ok (.bl true, 2) g := by
  intro n
  induction n with
  | zero =>
    intro t K g ho hd hK
    obtain ⟨k, rfl⟩ : ∃ k, K = k + 1 := ⟨K - 1, by omega⟩
    rw [uf39]
    cases t with
    | non => simp [b39, ss_cons]
    | bl b => cases b <;> simp [b39, ss_cons]
    | int i => simp [b39, ss_cons]
    | str s => simp [b39, ss_cons]
    | tup ts => simp [T.deep] at hd
    | lst ts => simp [T.deep] at hd
    | dic _ _ _ => simp [okL] at ho
    | fro _ => simp [okL] at ho
    | cell _ => simp [okL] at ho
  | succ n ih =>
    intro t K g ho hd hK
    obtain ⟨k, rfl⟩ : ∃ k, K = k + 1 := ⟨K - 1, by omega⟩
    rw [uf39]
    have main : ∀ ts : List T, okLs ts = true → ts.length ≤ 1000 → T.deeps ts ≤ n → ∀ u : T, (u = .lst ts ∨ u = .tup ts) → eE (eF P W k) [some u, some u, none] (.comp (.var 2) [2] (.one 2) (.rng1 (.bi .len (.cons (.var 1) .nil))) (.not (.call 39 (.cons (.idx (.var 0) (.var 2)) (.cons (.idx (.var 1) (.var 2)) .nil))))) g = .ok (.lst [], 2) g := by
      intro ts h1 h2 h3 u hu
      refine e_comp0 (rng_nat (n := ts.length) (v := 2) (by rcases hu with rfl | rfl <;> simp) (by omega)) fun t ht => ?_
      obtain ⟨i, hi, rfl⟩ := List.mem_map.mp ht
      have hi := List.mem_range.mp hi
      have m : ts[i] ∈ ts := List.getElem_mem hi
      have e := ih ts[i] k g (okLs_mem h1 _ m) (Nat.le_trans (deeps_mem _ m) h3) (by omega)
      have ia : ∀ f, idxV g u (.int (i : Int)) f = some (ts[i], if f = 2 then 2 else 0) := fun f => by
        rcases hu with rfl | rfl
        · rw [idx_lst, atI_nat, List.getElem?_eq_getElem hi]; rfl
        · rw [idx_tup, atI_nat, List.getElem?_eq_getElem hi]; rfl
      simp [ia, e]
    cases t with
    | non => simp [b39, ss_cons]
    | bl b => cases b <;> simp [b39, ss_cons]
    | int i => simp [b39, ss_cons]
    | str s => simp [b39, ss_cons]
    | tup ts =>
      simp only [okL, Bool.and_eq_true, decide_eq_true_eq] at ho
      simp only [T.deep] at hd
      have hc := main ts ho.2 ho.1 (by omega) _ (.inr rfl)
      simp [b39, ss_cons, hc]
    | lst ts =>
      simp only [okL, Bool.and_eq_true, decide_eq_true_eq] at ho
      simp only [T.deep] at hd
      have hc := main ts ho.2 ho.1 (by omega) _ (.inl rfl)
      simp [b39, ss_cons, hc]
    | dic _ _ _ => simp [okL] at ho
    | fro _ => simp [okL] at ho
    | cell _ => simp [okL] at ho

/-! ### the judge of orders -/
theorem ev42 (k : Nat) {u : List Nat} (h : Rise u) (hl : u.length ≤ 1000) (g : List T) : eF P W (k + 1) 42 [encI u] g = .ok (.bl true, 2) g := by
  rw [uf42]
  have hc : eE (eF P W k) [some (encI u), none] (.comp (.var 1) [1] (.one 1) (.rng2 (.lit (.int 1)) (.bi .len (.cons (.var 0) .nil))) (.cmp .GtE (.idx (.var 0) (.bin .sub (.var 1) (.lit (.int 1)))) (.idx (.var 0) (.var 1)))) g = .ok (.lst [], 2) g := by
    refine e_comp0 (rng2_nat (n := u.length) (v := 2) (w := 2) (by simp) (by simp) (by omega)) fun t ht => ?_
    obtain ⟨i, hi, rfl⟩ := List.mem_map.mp ht
    have hi : i + 1 < u.length := by have := List.mem_range.mp hi; omega
    have e1 : ((i + 1 : Nat) : Int) - 1 = ((i : Nat) : Int) := by omega
    have r := rise_get h hi
    have e2 : ¬ (u[i + 1] ≤ u[i]'(by omega)) := by omega
    simp only [bind_one, wipe_one, x_cmp, x_idx, x_var, x_bin, x_lit]
    simp only [List.set_cons_succ, List.set_cons_zero, List.getD_eq_getElem?_getD, List.getElem?_cons_succ, List.getElem?_cons_zero, Option.getD_some, Option.map_some, Out.of_some, Out.bind_ok, sub_int, e1, idx_encI]
    rw [List.getElem?_eq_getElem (by omega), List.getElem?_eq_getElem hi]
    simp [e2]
  simp [b42, ss_cons, hc]
theorem ev42L (k : Nat) {l : List (List Nat)} (h : NmAB l) (g : List T) : eF P W (k + 1) 42 [encL l] g = .ok (.bl true, 2) g := by
  rw [uf42]
  have hc : eE (eF P W k) [some (encL l), none] (.comp (.var 1) [1] (.one 1) (.rng2 (.lit (.int 1)) (.bi .len (.cons (.var 0) .nil))) (.cmp .GtE (.idx (.var 0) (.bin .sub (.var 1) (.lit (.int 1)))) (.idx (.var 0) (.var 1)))) g = .ok (.lst [], 2) g := by
    have hl : l.length ≤ 2 := by rcases h with rfl | rfl | rfl | rfl <;> simp
    refine e_comp0 (rng2_nat (n := l.length) (v := 2) (w := 2) (by simp) (by simp) (by omega)) fun t ht => ?_
    obtain ⟨i, hi, rfl⟩ := List.mem_map.mp ht
    have hi : i + 1 < l.length := by have := List.mem_range.mp hi; omega
    have e1 : ((i + 1 : Nat) : Int) - 1 = ((i : Nat) : Int) := by omega
    have r : cmpV .GtE (.str (l[i]'(by omega))) (.str l[i + 1]) = some false := by
      have i0 : i = 0 := by omega
      subst i0
      rcases h with rfl | rfl | rfl | rfl
      · simp at hi
      · simp at hi
      · rfl
      · simp at hi
    simp only [bind_one, wipe_one, x_cmp, x_idx, x_var, x_bin, x_lit]
    simp only [List.set_cons_succ, List.set_cons_zero, List.getD_eq_getElem?_getD, List.getElem?_cons_succ, List.getElem?_cons_zero, Option.getD_some, Option.map_some, Out.of_some, Out.bind_ok, sub_int, e1, idx_encL]
    rw [List.getElem?_eq_getElem (by omega), List.getElem?_eq_getElem hi]
    simp [r]
  simp [b42, ss_cons, hc]
theorem ev43 (k : Nat) {s : List Nat} (h : s ∈ NAB) (g : List T) : eF P W (k + 1) 43 [.str s] g = .ok (.bl true, 2) g := by
  simp only [NAB, List.mem_cons, List.not_mem_nil, or_false] at h
  rcases h with rfl | rfl
  · exact ev43a k g
  · exact ev43b k g
/-- what is sure of an order ahead of what the judge tells -/
structure PW (ups : List (List Nat)) (lets : List (List (List Nat))) : Prop where
  pos : 0 < ups.length
  n60 : ups.length ≤ 60
  ll : lets.length = ups.length
  root : upAt ups 0 = List.range ups.length
  rise : ∀ u ∈ ups, Rise u
  lt : ∀ u ∈ ups, ∀ v ∈ u, v < ups.length
  refl : ∀ i, i < ups.length → i ∈ upAt ups i
  names : ∀ l ∈ lets, NmAB l
section
variable {ups : List (List Nat)} {lets : List (List (List Nat))}
def condB (ups : List (List Nat)) (lets : List (List (List Nat))) (w x : Nat) : Bool :=
  !((x != w) && decide (w ∈ upAt ups x)) && ((upAt ups x).filter fun y => !decide (y ∈ upAt ups w)).isEmpty && ((letAt lets w).filter fun s => !decide (s ∈ letAt lets x)).isEmpty
def ordB (ups : List (List Nat)) (lets : List (List (List Nat))) : Bool := (List.range ups.length).all fun w => (upAt ups w).all (condB ups lets w)
theorem WF.pw (h : WF NmAB ups lets) (hl : ups.length ≤ 60) : PW ups lets := ⟨h.pos, hl, h.ll, h.root, h.rise, h.lt, h.refl, h.names⟩
theorem WF.ordB (h : WF NmAB ups lets) : ordB ups lets = true := by
  simp only [K53.ordB, List.all_eq_true, List.mem_range]
  intro w hw x hx
  simp only [condB, Bool.and_eq_true, Bool.not_eq_true', Bool.and_eq_false_iff, List.isEmpty_iff, List.filter_eq_nil_iff]
  refine ⟨⟨?_, fun y hy => ?_⟩, fun s hs => ?_⟩
  · by_cases e : x = w
    · exact .inl (by simp [e])
    · exact .inr (decide_eq_false fun m => e (h.anti w hw x hx m).symm)
  · rw [decide_eq_true (h.trans w hw x hx y hy)]
    simp
  · rw [decide_eq_true (h.mono w hw x hx s hs)]
    simp
theorem PW.wf (h : PW ups lets) (o : ordB ups lets = true) : WF NmAB ups lets := by
  simp only [ordB, List.all_eq_true, List.mem_range] at o
  have key : ∀ w, w < ups.length → ∀ x ∈ upAt ups w, (x = w ∨ w ∉ upAt ups x) ∧ (∀ y ∈ upAt ups x, y ∈ upAt ups w) ∧ ∀ s ∈ letAt lets w, s ∈ letAt lets x := by
    intro w hw x hx
    have c := o w hw x hx
    simp only [condB, Bool.and_eq_true, Bool.not_eq_true', Bool.and_eq_false_iff, List.isEmpty_iff, List.filter_eq_nil_iff] at c
    obtain ⟨⟨c1, c2⟩, c3⟩ := c
    refine ⟨?_, fun y hy => ?_, fun s hs => ?_⟩
    · rcases c1 with c1 | c1
      · exact .inl (by simpa using c1)
      · exact .inr (of_decide_eq_false c1)
    · have := c2 y hy
      simpa using this
    · have := c3 s hs
      simpa using this
  exact ⟨h.pos, h.ll, h.root, h.rise, h.lt, h.refl, fun i hi j hj k hk => (key i hi j hj).2.1 k hk, fun i hi j hj m => ((key i hi j hj).1.resolve_right fun z => z m).symm, h.names, fun i hi j hj s hs => (key i hi j hj).2.2 s hs⟩
theorem PW.u60 (h : PW ups lets) : ∀ u ∈ ups, u.length ≤ 60 := fun u hu => by
  have := nodup_sub_length (ys := List.range ups.length) (rise_nodup (h.rise u hu)) fun a ha => List.mem_range.mpr (h.lt u hu a ha)
  rw [List.length_range] at this
  have := h.n60
  omega
theorem ev45 (k : Nat) (h : PW ups lets) (g : List T) : eF P W (k + 3) 45 [encO ups lets] g = .ok (.bl (ordB ups lets), 2) g := by
  rw [uf45, b45_eq, encO]
  have p1 := h.pos
  have p2 := h.ll
  have p3 := h.n60
  have q1 : (1 : Int) ≤ (ups.length : Int) := by omega
  have q2 : (ups.length : Int) ≤ 60 := by omega
  have q3 : ((lets.length : Int) == (ups.length : Int)) = true := by rw [p2]; simp
  have h0 : ups[0]? = some (List.range ups.length) := by
    rw [List.getElem?_eq_getElem h.pos, ← upAt_eq h.pos, h.root]
  let o : T := .tup [encU ups, encM lets]
  have hr : eE (eF P W (k + 2)) [none, some (.int (ups.length : Int)), none, none, none, some (encU ups), none, none, none, none] (.lrng1 (.var 1)) g = .ok (encI (List.range ups.length), 2) g := lrng_nat (v := 0) (by simp) (by omega)
  rw [ss_nx (env' := [some (o, 0), none, none, none, none, none, none, none, none, none]) (g' := g) (by simp [o]),
    ss_nx (env' := [some (o, 0), none, none, none, none, some (encU ups, 0), some (encM lets, 0), none, none, none]) (g' := g) (by simp [norm, o]),
    ss_nx (env' := [some (o, 0), some (.int (ups.length : Int), 2), none, none, none, some (encU ups, 0), some (encM lets, 0), none, none, none]) (g' := g) (by simp),
    ss_nx (env' := [some (o, 0), some (.int (ups.length : Int), 2), none, none, none, some (encU ups, 0), some (encM lets, 0), none, none, none]) (g' := g) (by simp [q1, q2, q3])]
  have loop1 := forL_find (b := turnF (eF P W (k + 2)) W (.one 2) l45_0) (e := encI) (p := fun _ => true) (r := (.bl false, 2)) (g := g)
    (I := fun env => ∃ a, env = [some (o, 0), some (.int (ups.length : Int), 2), a, none, none, some (encU ups, 0), some (encM lets, 0), none, none, none]) ups [some (o, 0), some (.int (ups.length : Int), 2), none, none, none, some (encU ups, 0), some (encM lets, 0), none, none, none] ⟨_, rfl⟩ (fun u hu env he => ⟨fun _ => ?_, fun z => by cases z⟩)
  · obtain ⟨env', e1, a, rfl⟩ := loop1.1 (List.all_eq_true.mpr fun _ _ => rfl)
    rw [ss_nx (env' := _) (g' := g) (by
      rw [s_for]
      simpa using e1)]
    have loop2 := forL_find (b := turnF (eF P W (k + 2)) W (.one 3) l45_1) (e := encL) (p := fun _ => true) (r := (.bl false, 2)) (g := g)
      (I := fun env => ∃ b, env = [some (o, 0), some (.int (ups.length : Int), 2), a, b, none, some (encU ups, 0), some (encM lets, 0), none, none, none]) lets [some (o, 0), some (.int (ups.length : Int), 2), a, none, none, some (encU ups, 0), some (encM lets, 0), none, none, none] ⟨_, rfl⟩ (fun l hl env he => ⟨fun _ => ?_, fun z => by cases z⟩)
    · obtain ⟨env', e2, b, rfl⟩ := loop2.1 (List.all_eq_true.mpr fun _ _ => rfl)
      rw [ss_nx (env' := _) (g' := g) (by
        rw [s_for]
        simpa using e2),
        ss_nx (env' := [some (o, 0), some (.int (ups.length : Int), 2), a, b, none, some (encU ups, 0), some (encM lets, 0), none, none, none]) (g' := g) (by simp [hr, idx0_encU, h0, ne_encI])]
      have loop3 := forL_find (b := turnF (eF P W (k + 2)) W (.one 4) l45_3) (e := tI) (p := fun w => (upAt ups w).all (condB ups lets w)) (r := (.bl false, 2)) (g := g)
        (I := fun env => ∃ f c d f5, env = [some (o, 0), some (.int (ups.length : Int), f), a, b, c, some (encU ups, f5), some (encM lets, 0), d, none, none]) (List.range ups.length) [some (o, 0), some (.int (ups.length : Int), 0), a, b, none, some (encU ups, 0), some (encM lets, 0), none, none, none] ⟨_, _, _, _, rfl⟩ (fun w hw env he => ?_)
      · have l3a := loop3.1
        have l3b := loop3.2
        cases c : ordB ups lets with
        | true =>
          obtain ⟨env', e3, f, cc, d, f5, rfl⟩ := l3a c
          rw [ss_nx (env' := _) (g' := g) (by
            rw [s_for, rng_nat (n := ups.length) (v := 0) (by simp) (by omega), Out.bind_ok]
            simpa using e3)]
          simp [ss_cons]
        | false =>
          have e3 := l3b c
          rw [ss_rt (x := (.bl false, 2)) (g' := g) (by
            rw [s_for, rng_nat (n := ups.length) (v := 0) (by simp) (by omega), Out.bind_ok]
            simpa using e3)]
          simp
      · obtain ⟨f, cc, d, f5, rfl⟩ := he
        have hw := List.mem_range.mp hw
        obtain ⟨u, gu, eu⟩ := up_get hw
        have um : u ∈ ups := List.mem_of_getElem? gu
        have self : w ∈ u := by
          have := h.refl w hw
          rwa [eu] at this
        obtain ⟨lw, gl, el⟩ := let_get (l := lets) (x := w) (by omega)
        have inner := forL_find (b := turnF (eF P W (k + 2)) W (.one 7) l45_2) (e := tI) (p := condB ups lets w) (r := (.bl false, 2)) (g := g)
          (I := fun env => ∃ fw d, env = [some (o, 0), some (.int (ups.length : Int), f), a, b, some (tI w, fw), some (encU ups, 0), some (encM lets, 0), d, none, none]) u [some (o, 0), some (.int (ups.length : Int), f), a, b, some (tI w, 0), some (encU ups, 0), some (encM lets, 0), d, none, none] ⟨_, _, rfl⟩ (fun x hx env he => ?_)
        · have first : eS (eF P W (k + 2)) W (.ifs [4, 5] (.cmp .NotIn (.var 4) (.idx (.var 5) (.var 4))) (.cons (.ret [] (.lit (.bl false))) .nil) .nil) [some (o, 0), some (.int (ups.length : Int), f), a, b, some (tI w, 2), some (encU ups, f5), some (encM lets, 0), d, none, none] g = .ok (.nx [some (o, 0), some (.int (ups.length : Int), f), a, b, some (tI w, 2), some (encU ups, f5), some (encM lets, 0), d, none, none]) g := by
            simp [gu, self]
          rw [eu]
          constructor
          · intro c
            obtain ⟨env', e4, fw, d', rfl⟩ := inner.1 c
            refine ⟨[some (o, 0), some (.int (ups.length : Int), f), a, b, some (tI w, fw), some (encU ups, 0), some (encM lets, 0), d', none, none], ?_, _, _, _, _, rfl⟩
            simp only [turnF, bindV_one, l45_3, norm_int, List.set_cons_succ, List.set_cons_zero]
            rw [ss_nx first, ss_nx (g' := g) (by
              rw [s_for]
              simp [gu]
              exact e4)]
            exact ss_nil
          · intro c
            have e4 := inner.2 c
            simp only [turnF, bindV_one, l45_3, norm_int, List.set_cons_succ, List.set_cons_zero]
            rw [ss_nx first, ss_rt (g' := g) (x := (.bl false, 2)) (by
              rw [s_for]
              simp [gu]
              exact e4)]
        · obtain ⟨fw, d, rfl⟩ := he
          have hx' := h.lt u um x hx
          obtain ⟨v, gv, ev⟩ := up_get hx'
          obtain ⟨lx, glx, elx⟩ := let_get (l := lets) (x := x) (by omega)
          have c1 : eE (eF P W (k + 2)) [none, none, none, none, some (tI w), some (encU ups), some (encM lets), some (tI x), none, none] (.comp (.var 9) [9] (.one 9) (.seq (.idx (.var 5) (.var 7))) (.cmp .NotIn (.var 9) (.idx (.var 5) (.var 4)))) g = .ok (encI (v.filter fun y => !decide (y ∈ u)), 2) g := by
            refine (e_comp (e := tI) (xs := v) (p := fun y => !decide (y ∈ u)) (r := fun y => (tI y, 0)) (by simp [gv]) fun y hy => ?_).trans ?_
            · by_cases m : y ∈ u <;> simp [gu, m]
            · rw [allFl_map fun _ _ => .inr rfl]
              rfl
          have c2 : eE (eF P W (k + 2)) [none, none, none, none, some (tI w), some (encU ups), some (encM lets), some (tI x), none, none] (.comp (.var 8) [8] (.one 8) (.seq (.idx (.var 6) (.var 4))) (.cmp .NotIn (.var 8) (.idx (.var 6) (.var 7)))) g = .ok (encL (lw.filter fun s => !decide (s ∈ lx)), 2) g := by
            refine (e_comp (e := T.str) (xs := lw) (p := fun s => !decide (s ∈ lx)) (r := fun s => (.str s, 0)) (by simp [gl]) fun s hs => ?_).trans ?_
            · by_cases m : s ∈ lx <;> simp [glx, m]
            · rw [allFl_map fun _ _ => .inr rfl]
              rfl
          have e5 : ((x : Int) == (w : Int)) = (x == w) := by
            by_cases z : x = w
            · simp [z]
            · have z' : ¬ (x : Int) = (w : Int) := by omega
              rw [beq_eq_false_iff_ne.mpr z, beq_eq_false_iff_ne.mpr z']
          have cb : condB ups lets w x = (!((!(x == w)) && decide (w ∈ v)) && (v.filter fun y => !decide (y ∈ u)).isEmpty && (lw.filter fun s => !decide (s ∈ lx)).isEmpty) := by
            simp only [condB, bne, ev, eu, el, elx]
          rw [cb]
          simp only [turnF, bindV_one, l45_2, ss_cons]
          generalize (v.filter fun y => !decide (y ∈ u)) = F1 at c1 ⊢
          generalize (lw.filter fun s => !decide (s ∈ lx)) = F2 at c2 ⊢
          constructor
          · intro c
            simp only [Bool.and_eq_true, Bool.not_eq_true'] at c
            obtain ⟨⟨ca, cb'⟩, cc'⟩ := c
            have n1 : F1 = [] := by simpa using cb'
            have n2 : F2 = [] := by simpa using cc'
            subst n1 n2
            refine ⟨[some (o, 0), some (.int (ups.length : Int), f), a, b, some (tI w, fw), some (encU ups, 0), some (encM lets, 0), some (tI x, 2), none, none], ?_, _, _, rfl⟩
            cases exw : (x == w) with
            | true => simp [e5, exw, c1, c2, gv]
            | false =>
              rw [exw] at ca
              have nm : decide (w ∈ v) = false := by simpa using ca
              simp [e5, exw, gv, nm, c1, c2]
          · intro c
            cases exw : (x == w) with
            | true =>
              rw [exw] at c
              cases F1 with
              | nil =>
                cases F2 with
                | nil => simp at c
                | cons s2 r2 => simp [e5, exw, c1, c2, ss_cons]
              | cons s1 r1 => simp [e5, exw, c1, ss_cons]
            | false =>
              rw [exw] at c
              cases nm : decide (w ∈ v) with
              | true => simp [e5, exw, gv, nm, ss_cons]
              | false =>
                rw [nm] at c
                cases F1 with
                | nil =>
                  cases F2 with
                  | nil => simp at c
                  | cons s2 r2 => simp [e5, exw, c1, c2, ss_cons, gv, nm]
                | cons s1 r1 => simp [e5, exw, c1, ss_cons, gv, nm]
    · obtain ⟨b, rfl⟩ := he
      have nl := h.names l hl
      have c1 : eE (eF P W (k + 2)) [none, none, none, some (encL l), none, none, none, none, none, none] (.comp (.var 8) [8] (.one 8) (.seq (.var 3)) (.not (.call 43 (.cons (.var 8) .nil)))) g = .ok (.lst [], 2) g := by
        refine e_comp0 (ts := l.map T.str) (by simp) fun t ht => ?_
        obtain ⟨s, hs, rfl⟩ := List.mem_map.mp ht
        simp [ev43 (k + 1) (names_ab nl s hs) g]
      refine ⟨[some (o, 0), some (.int (ups.length : Int), 2), a, some (encL l, 0), none, some (encU ups, 0), some (encM lets, 0), none, none, none], ?_, _, rfl⟩
      simp only [turnF, bindV_one, l45_1, ss_cons]
      simp [c1, ev42L (k + 1) nl g]
  · obtain ⟨a, rfl⟩ := he
    have u60 := h.u60 u hu
    have c1 : eE (eF P W (k + 2)) [none, some (.int (ups.length : Int)), some (encI u), none, none, none, none, none, none, none] (.comp (.var 7) [7] (.one 7) (.seq (.var 2)) (.or (.not (.call 44 (.cons (.var 7) .nil))) (.not (.chain .LtE .Lt (.lit (.int 0)) (.var 7) (.var 1))))) g = .ok (.lst [], 2) g := by
      refine e_comp0 (ts := u.map tI) (by simp) fun t ht => ?_
      obtain ⟨x, hx, rfl⟩ := List.mem_map.mp ht
      have := h.lt u hu x hx
      simp [ev44 (k + 1), this]
    refine ⟨[some (o, 0), some (.int (ups.length : Int), 2), some (encI u, 0), none, none, some (encU ups, 0), some (encM lets, 0), none, none, none], ?_, _, rfl⟩
    simp only [turnF, bindV_one, l45_0, ss_cons]
    simp [c1, ev42 (k + 1) (h.rise u hu) (by omega) g]
end
end Fx.K53
end

section
set_option Elab.async false
set_option linter.all false
set_option maxRecDepth 100000
set_option maxHeartbeats 4000000
/-! Em53: k53, the law's list of all orders. -/
namespace Fx.K53
open PySem PySem.Spec PyProof.Rows L2 Fx Fx.Om
/-! ### sorted -/
structure Srt {α : Type} (e : α → T) (n : Nat) : Prop where
  pl : ∀ a, (e a).plain = true
  dp : ∀ a, (e a).deep ≤ n
  al : ∀ a b, PySem.W.alike (e a).dat (e b).dat = true
  nt : ∀ a, notTup (e a) = true
theorem alikeAll_map {α : Type} {f : α → PyData} (h : ∀ a b, PySem.W.alike (f a) (f b) = true) : ∀ xs ys : List α, PySem.W.alikeAll (xs.map f) (ys.map f) = true
  | [], ys => by cases ys <;> rfl
  | x :: xs, [] => rfl
  | x :: xs, y :: ys => by
    simp only [List.map_cons, PySem.W.alikeAll, h, alikeAll_map h xs ys, Bool.and_self]
theorem Srt.lst {α : Type} {e : α → T} {n : Nat} (s : Srt e n) : Srt (fun l : List α => .lst (l.map e)) (n + 1) where
  pl := fun l => by
    simp only [T.plain]
    exact plains_map fun x _ => s.pl x
  dp := fun l => by
    simp only [T.deep]
    exact Nat.succ_le_succ (deeps_map fun x _ => s.dp x)
  al := fun a b => by
    simp only [T.dat, PySem.W.alike, dats_map]
    exact alikeAll_map s.al a b
  nt := fun _ => rfl
theorem srt_tI : Srt tI 0 := ⟨fun _ => rfl, fun _ => Nat.le_refl _, fun _ _ => rfl, fun _ => rfl⟩
theorem srt_str : Srt T.str 0 := ⟨fun _ => rfl, fun _ => Nat.le_refl _, fun _ _ => rfl, fun _ => rfl⟩
theorem srt_encI : Srt encI 1 := srt_tI.lst
theorem srt_encL : Srt encL 1 := srt_str.lst
theorem srt_encU : Srt encU 2 := srt_encI.lst
theorem srt_encM : Srt encM 2 := srt_encL.lst
def sortBy {α : Type} (e : α → T) (L : List α) : List α := isort (fun a b => leT (e a) (e b)) L
theorem ins_length {α : Type} (le : α → α → Bool) (a : α) : ∀ xs : List α, (ins le a xs).length = xs.length + 1
  | [] => rfl
  | b :: r => by
    unfold ins
    split
    · rfl
    · simp [ins_length le a r]
theorem isort_length {α : Type} (le : α → α → Bool) : ∀ xs : List α, (isort le xs).length = xs.length
  | [] => rfl
  | a :: r => by simp [isort, ins_length, isort_length le r]
theorem mem_sortBy {α : Type} {e : α → T} {L : List α} {a : α} : a ∈ sortBy e L ↔ a ∈ L := Om.mem_isort
theorem sortBy_length {α : Type} {e : α → T} {L : List α} : (sortBy e L).length = L.length := isort_length _ _
theorem sorted_enc {α : Type} {e : α → T} {n f : Nat} (s : Srt e n) (hn : n ≤ 60) (L : List α) : biV .sorted [(.lst (L.map e), f)] = some (.lst ((sortBy e L).map e), if T.flats ((sortBy e L).map e) then 2 else 1) := by
  show (sortV (L.map e)).map (fun xs => (T.lst xs, if T.flats xs then 2 else 1)) = _
  have ok : sortOk (L.map e) = true := by
    unfold sortOk
    simp only [Bool.and_eq_true, Bool.or_eq_true, List.all_eq_true, decide_eq_true_eq]
    refine ⟨⟨⟨plains_map fun x _ => s.pl x, Nat.le_trans (deeps_map fun x _ => s.dp x) (by omega)⟩, fun x hx y hy => ?_⟩, .inl fun x hx => ?_⟩
    · obtain ⟨a, _, rfl⟩ := List.mem_map.mp hx
      obtain ⟨b, _, rfl⟩ := List.mem_map.mp hy
      exact s.al a b
    · obtain ⟨a, _, rfl⟩ := List.mem_map.mp hx
      exact s.nt a
  unfold sortV
  rw [if_pos ok, isort_map (f := e) (le := fun a b => leT (e a) (e b)) (fun _ _ => rfl)]
  rfl
theorem leT_nat (a b : Nat) : leT (tI a) (tI b) = decide (a ≤ b) := by
  have := PySem.W.dataLe_int (fun b : Int => b)
  have h := congrFun (congrFun this (a : Int)) (b : Int)
  have e : leT (tI a) (tI b) = PySem.W.dataLe false (fun b : Int => PyData.int b) (a : Int) (b : Int) := rfl
  rw [e, h]
  exact decide_eq_decide.mpr (by omega)
def sortN (xs : List Nat) : List Nat := isort (fun a b => decide (a ≤ b)) xs
theorem sorted_encI {f : Nat} (xs : List Nat) : biV .sorted [(encI xs, f)] = some (encI (sortN xs), 2) := by
  show biV .sorted [(.lst (xs.map tI), f)] = _
  rw [sorted_enc srt_tI (by omega), if_pos (flats_map fun _ _ => rfl)]
  have : sortBy tI xs = sortN xs := by
    unfold sortBy sortN
    congr 1
    funext a b
    exact leT_nat a b
  rw [this]
  rfl
/-- the places of a list, each of any flag -/
theorem e_comp1 {α : Type} {F : Call} {env : Env} {elt : E} {own : List Nat} {tg : Tg} {it : It} {g : List T} {e : α → T} {xs : List α} {r : α → T} {n : α → Nat}
    (hi : eIt F env it g = .ok (xs.map e) g) (h : ∀ x ∈ xs, (match bindTg tg (e x) (wipeE env own) with
      | none => Out.bad
      | some env' => eE F env' elt g) = .ok (r x, n x) g) : ∃ fl, eE F env (.comp elt own tg it (.lit (.bl true))) g = .ok (.lst (xs.map r), fl) g := by
  refine ⟨if allFl (xs.map fun x => (r x, n x)) then 2 else 1, ?_⟩
  refine (e_comp (e := e) (xs := xs) (p := fun _ => true) (r := fun x => (r x, n x)) hi fun x hx => ?_).trans ?_
  · have := h x hx
    cases bb : bindTg tg (e x) (wipeE env own) with
    | none => rw [bb] at this; cases this
    | some env' =>
      rw [bb] at this
      simp [this]
  · have ft : xs.filter (fun _ => true) = xs := List.filter_eq_self.mpr fun _ _ => rfl
    rw [ft]

/-! ### lots -/
def lotsR {α : Type} (xs : List α) : List (List α) := xs.foldl (fun told x => told ++ told.map (· ++ [x])) [[]]
theorem lotsR_snoc {α : Type} (xs : List α) (x : α) : lotsR (xs ++ [x]) = lotsR xs ++ (lotsR xs).map (· ++ [x]) := by simp [lotsR]
theorem lotsR_length {α : Type} : ∀ xs : List α, (lotsR xs).length = 2 ^ xs.length := by
  have : ∀ (xs : List α) (L : List (List α)), (xs.foldl (fun told x => told ++ told.map (· ++ [x])) L).length = L.length * 2 ^ xs.length := by
    intro xs
    induction xs with
    | nil => intro L; simp
    | cons x xs ih =>
      intro L
      rw [List.foldl_cons, ih, List.length_append, List.length_map, List.length_cons, Nat.pow_succ, Nat.mul_comm (2 ^ xs.length) 2, ← Nat.mul_assoc, Nat.mul_two]
  intro xs
  have := this xs [[]]
  simpa [lotsR] using this
theorem ev46 {α : Type} {e : α → T} {n : Nat} (s : Srt e n) (hn : n ≤ 10) (k : Nat) (xs : List α) (hl : xs.length ≤ 3) (g : List T) :
    ∃ fl, eF P W (k + 1) 46 [.lst (xs.map e)] g = .ok (.lst ((sortBy (fun l : List α => T.lst (l.map e)) (lotsR xs)).map fun l => .lst (l.map e)), fl) g := by
  rw [uf46, b46_eq, ss_nx (env' := [some (.lst (xs.map e), 0), some (.lst ((lotsR ([] : List α)).map fun l => .lst (l.map e)), 2), none, none]) (g' := g) (by simp [lotsR])]
  have loop := forL_map (b := turnF (eF P W k) W (.one 2) l46_0) (e := e) (I := fun don env g' => g' = g ∧ ∃ f x, env = [some (.lst (xs.map e), 0), some (.lst ((lotsR don).map fun l => .lst (l.map e)), f), x, none])
    (Q := fun o => ∃ f x, o = .ok (.nx [some (.lst (xs.map e), 0), some (.lst ((lotsR xs).map fun l => .lst (l.map e)), f), x, none]) g) xs [] [some (.lst (xs.map e), 0), some (.lst ((lotsR ([] : List α)).map fun l => .lst (l.map e)), 2), none, none] g ⟨rfl, _, none, rfl⟩ (fun pre p post env g' eq hI => ?_) (fun env g' hI => ?_)
  · obtain ⟨f, x, e1⟩ := loop
    rw [ss_nx (env' := _) (g' := g) (by
      rw [s_for]
      simp
      exact e1)]
    refine ⟨if T.flats ((sortBy (fun l : List α => T.lst (l.map e)) (lotsR xs)).map fun l => T.lst (l.map e)) = true then 2 else 1, ?_⟩
    simp only [ss_cons, s_ret, x_bi, xs_cons, xs_nil, x_var, only_cons, only_nil]
    simp only [Out.bind_ok]
    have := sorted_enc (s.lst) (by omega) (f := 0) (lotsR xs)
    simp [this]
  · obtain ⟨rfl, f, x, rfl⟩ := hI
    rw [List.nil_append] at eq
    have plen : pre.length ≤ 3 := by
      have := congrArg List.length eq
      simp at this
      omega
    have ll := lotsR_length pre
    have l8 : (2 : Nat) ^ pre.length ≤ 8 := by
      have : (2 : Nat) ^ pre.length ≤ 2 ^ 3 := Nat.pow_le_pow_right (by decide) plen
      exact this
    have lot_len : ∀ l ∈ lotsR pre, l.length ≤ pre.length := by
      clear eq plen ll l8
      have : ∀ (ys : List α) (L : List (List α)) (m : Nat), (∀ l ∈ L, l.length ≤ m) → ∀ l ∈ ys.foldl (fun told x => told ++ told.map (· ++ [x])) L, l.length ≤ m + ys.length := by
        intro ys
        induction ys with
        | nil => intro L m h l hl; simpa using h l hl
        | cons y ys ih =>
          intro L m h l hl
          rw [List.foldl_cons] at hl
          have := ih _ (m + 1) (fun l hl => by
            rcases List.mem_append.mp hl with hl | hl
            · have := h l hl; omega
            · obtain ⟨l', hl', rfl⟩ := List.mem_map.mp hl
              have := h l' hl'
              simp
              omega) l hl
          simp only [List.length_cons]
          omega
      intro l hl
      have := this pre [[]] 0 (by simp) l hl
      simpa using this
    obtain ⟨fl, hc⟩ := e_comp1 (F := eF P W k) (env := [none, some (.lst ((lotsR pre).map fun l => .lst (l.map e))), some (e p), none]) (elt := .bin .add (.var 3) (.lst (.cons (.var 2) .nil))) (own := [3]) (tg := .one 3) (it := .seq (.var 1)) (g := g') (e := fun l : List α => T.lst (l.map e)) (xs := lotsR pre) (r := fun l => .lst ((l ++ [p]).map e)) (n := fun l => 1) (by simp) (fun l hl => by
      have := lot_len l hl
      simp
      rw [add_lst (by simp; omega)]
      simp)
    refine ⟨[some (.lst (xs.map e), 0), some (.lst ((lotsR (pre ++ [p])).map fun l => .lst (l.map e)), 1), some (e p, 0), none], g', .inl ?_, rfl, 1, some (e p, 0), rfl⟩
    have en : norm (e p, 0) = (e p, (norm (e p, 0)).2) := Prod.ext (norm_t _) rfl
    simp only [turnF, bindV_one, l46_0, ss_cons]
    rw [en]
    have ad : binV .add (.lst ((lotsR pre).map fun l => .lst (l.map e))) (.lst ((lotsR pre).map fun l => .lst ((l ++ [p]).map e))) 0 fl = some (.lst ((lotsR (pre ++ [p])).map fun l => .lst (l.map e)), 1) := by
      rw [add_lst (by simp; omega), lotsR_snoc, List.map_append, List.map_map]
      rfl
    simp [hc]
    simp at ad
    simp [ad]
  · obtain ⟨rfl, f, x, rfl⟩ := hI
    exact ⟨f, x, by rw [List.nil_append]⟩

/-! ### all orders -/
def othersN (n w : Nat) : List Nat := ((List.range (n - 1)).filter fun i => i + 1 != w).map (· + 1)
def SS (n w : Nat) : List (List Nat) := sortBy encI (lotsR (othersN n w))
def RRn (n : Nat) : Nat → List (List (List Nat))
  | 0 => [[List.range n]]
  | j + 1 => (RRn n j).flatMap fun row => (SS n (j + 1)).map fun lot => row ++ [sortN (lot ++ [j + 1])]
def SN : List (List (List Nat)) := sortBy encL (lotsR NAB)
def LL : Nat → List (List (List (List Nat)))
  | 0 => [[]]
  | j + 1 => (LL j).flatMap fun row => SN.map fun lot => row ++ [lot]
def ordsN (n : Nat) : List (List (List Nat) × List (List (List Nat))) := (sortBy encU (RRn n (n - 1))).flatMap fun u => ((sortBy encM (LL n)).filter (ordB u)).map fun l => (u, l)
theorem sum_const {α : Type} {f : α → Nat} {c : Nat} : ∀ xs : List α, (∀ x ∈ xs, f x = c) → (xs.map f).sum = xs.length * c
  | [], _ => by simp
  | x :: xs, h => by
    rw [List.map_cons, List.sum_cons, h x List.mem_cons_self, sum_const xs fun y hy => h y (List.mem_cons_of_mem _ hy), List.length_cons, Nat.succ_mul]
    omega
theorem others_len (n w : Nat) : (othersN n w).length ≤ n - 1 := by
  simp only [othersN, List.length_map]
  exact Nat.le_trans (List.length_filter_le _ _) (by simp)
theorem SS_len (n w : Nat) (hn : n ≤ 3) : (SS n w).length ≤ 4 := by
  have h1 := others_len n w
  rw [SS, sortBy_length, lotsR_length]
  have : (2 : Nat) ^ (othersN n w).length ≤ 2 ^ 2 := Nat.pow_le_pow_right (by decide) (by omega)
  exact this
theorem RR_len (n : Nat) (hn : n ≤ 3) : ∀ j, j ≤ 2 → (RRn n j).length ≤ 4 ^ j
  | 0, _ => by simp [RRn]
  | j + 1, h => by
    have ih := RR_len n hn j (by omega)
    have l := SS_len n (j + 1) hn
    simp only [RRn, List.length_flatMap, List.length_map]
    rw [sum_const (c := (SS n (j + 1)).length) _ fun _ _ => rfl, Nat.pow_succ]
    exact Nat.mul_le_mul ih l
theorem SN_len : SN.length = 4 := by
  rw [SN, sortBy_length, lotsR_length]
  rfl
theorem LL_len : ∀ j, (LL j).length = 4 ^ j
  | 0 => rfl
  | j + 1 => by
    simp only [LL, List.length_flatMap, List.length_map]
    rw [sum_const (c := SN.length) _ fun _ _ => rfl, LL_len j, SN_len, Nat.pow_succ]
theorem range_split {m : Nat} {pre post : List Nat} {p : Nat} (h : List.range m = pre ++ p :: post) : p = pre.length ∧ pre.length < m := by
  have l := congrArg List.length h
  simp at l
  have lt : pre.length < m := by omega
  have e := congrArg (fun x => x[pre.length]?) h
  simp [lt] at e
  exact ⟨e.symm, lt⟩
theorem add_int1 {l : List Nat} {w f1 f2 : Nat} (h : l.length ≤ 1000) : binV .add (encI l) (.lst [tI w]) f1 f2 = some (encI (l ++ [w]), fl2 f1 f2) := by
  show binV .add (.lst (l.map tI)) (.lst [tI w]) f1 f2 = _
  rw [add_lst (by simp; omega)]
  simp [encI]
theorem add_row {l : List (List Nat)} {w : List Nat} {f1 f2 : Nat} (h : l.length ≤ 1000) : binV .add (encU l) (.lst [encI w]) f1 f2 = some (encU (l ++ [w]), fl2 f1 f2) := by
  show binV .add (.lst (l.map encI)) (.lst [encI w]) f1 f2 = _
  rw [add_lst (by simp; omega)]
  simp [encU]
theorem add_rowL {l : List (List (List Nat))} {w : List (List Nat)} {f1 f2 : Nat} (h : l.length ≤ 1000) : binV .add (encM l) (.lst [encL w]) f1 f2 = some (encM (l ++ [w]), fl2 f1 f2) := by
  show binV .add (.lst (l.map encL)) (.lst [encL w]) f1 f2 = _
  rw [add_lst (by simp; omega)]
  simp [encM]
theorem RR_row (n : Nat) : ∀ j, ∀ row ∈ RRn n j, row.length = j + 1
  | 0, row, h => by
    simp only [RRn, List.mem_singleton] at h
    subst h
    rfl
  | j + 1, row, h => by
    simp only [RRn, List.mem_flatMap, List.mem_map] at h
    obtain ⟨r, hr, lot, _, rfl⟩ := h
    simp [RR_row n j r hr]
theorem LL_row : ∀ j, ∀ row ∈ LL j, row.length = j
  | 0, row, h => by
    simp only [LL, List.mem_singleton] at h
    subst h
    rfl
  | j + 1, row, h => by
    simp only [LL, List.mem_flatMap, List.mem_map] at h
    obtain ⟨r, hr, lot, _, rfl⟩ := h
    simp [LL_row j r hr]
theorem SS_lot {n w : Nat} {lot : List Nat} (h : lot ∈ SS n w) : lot ∈ lotsR (othersN n w) := mem_sortBy.mp h
theorem mem_lots {α : Type} {l xs : List α} (h : l ∈ lotsR xs) : l.Sublist xs := by
  have : ∀ (ys don : List α) (L : List (List α)), (∀ l ∈ L, l.Sublist don) → ∀ l ∈ ys.foldl (fun told x => told ++ told.map (· ++ [x])) L, l.Sublist (don ++ ys) := by
    intro ys
    induction ys with
    | nil => intro don L h l hl; simpa using h l hl
    | cons y ys ih =>
      intro don L h l hl
      rw [List.foldl_cons] at hl
      have := ih (don ++ [y]) _ (fun l hl => by
        rcases List.mem_append.mp hl with hl | hl
        · exact (h l hl).trans (List.sublist_append_left _ _)
        · obtain ⟨l', hl', rfl⟩ := List.mem_map.mp hl
          exact (h l' hl').append (List.Sublist.refl _)) l hl
      simpa using this
  have := this xs [] [[]] (by simp) l h
  simpa using this
theorem nil_lots {α : Type} (xs : List α) : [] ∈ lotsR xs := by
  have : ∀ (ys : List α) (L : List (List α)), [] ∈ L → [] ∈ ys.foldl (fun told x => told ++ told.map (· ++ [x])) L := by
    intro ys
    induction ys with
    | nil => intro L h; exact h
    | cons y ys ih =>
      intro L h
      rw [List.foldl_cons]
      exact ih _ (List.mem_append.mpr (.inl h))
  exact this xs _ (by simp)
/-- the rows, world by world -/
theorem rows_turn (k : Nat) (n : Nat) (hn : n ≤ 3) (g : List T) (j f0 f2 f3 : Nat) (hj : j + 1 < n) (x1 x4 x5 x6 : Option (T × Nat)) :
    ∃ f0' f2' f3', eSs (eF P W (k + 1)) W l47_0 [some (.int (n : Int), f0), x1, some (.lst ((RRn n j).map encU), f2), some (tI (j + 1), f3), x4, x5, x6, none, none, none] g = .ok (.nx [some (.int (n : Int), f0'), x1, some (.lst ((RRn n (j + 1)).map encU), f2'), some (tI (j + 1), f3'), x4, x5, x6, none, none, none]) g := by
  have co : ∀ r : T, eE (eF P W (k + 1)) [some (.int (n : Int)), none, some (.lst ((RRn n j).map encU)), some (tI (j + 1)), none, none, none, some r, none, none] (.comp (.var 9) [9] (.one 9) (.rng2 (.lit (.int 1)) (.var 0)) (.cmp .NotEq (.var 9) (.var 3))) g = .ok (encI (othersN n (j + 1)), 2) g := fun r => by
    refine (e_comp (e := fun i => tI (i + 1)) (xs := List.range (n - 1)) (p := fun i => i + 1 != j + 1) (r := fun i => (tI (i + 1), 0)) (rng2_nat (n := n) (v := 2) (w := 0) (by simp) (by simp) (by omega)) fun i hi => ?_).trans ?_
    · by_cases z : i = j
      · subst z
        simp
      · have h1 : (((i + 1 : Nat) : Int) == ((j + 1 : Nat) : Int)) = false := beq_eq_false_iff_ne.mpr (by omega)
        have h2 : (i + 1 != j + 1) = true := by simp [z]
        simp only [wipe_one, bind_one, x_cmp, x_var, List.set_cons_succ, List.set_cons_zero, List.getD_eq_getElem?_getD, List.getElem?_cons_succ, List.getElem?_cons_zero, Option.getD_some, Option.map_some, Out.of_some, Out.bind_ok, cmp_ne_int, h1, h2, Bool.not_false, truth_bl, if_true]
    · rw [allFl_map fun _ _ => .inr rfl, othersN, ← mk_encI, List.map_map]
      rfl
  have ol : (othersN n (j + 1)).length ≤ 3 := Nat.le_trans (others_len _ _) (by omega)
  obtain ⟨fl, e46⟩ := ev46 srt_tI (by decide) k (othersN n (j + 1)) ol g
  have e46' : eF P W (k + 1) 46 [encI (othersN n (j + 1))] g = .ok (.lst ((SS n (j + 1)).map encI), fl) g := e46
  have ci : ∀ row ∈ RRn n j, ∃ fl, eE (eF P W (k + 1)) [some (.int (n : Int)), none, some (.lst ((RRn n j).map encU)), some (tI (j + 1)), none, none, none, some (encU row), none, none] (.comp (.bin .add (.var 7) (.lst (.cons (.bi .sorted (.cons (.bin .add (.var 8) (.lst (.cons (.var 3) .nil))) .nil)) .nil))) [8] (.one 8) (.seq (.call 46 (.cons (.comp (.var 9) [9] (.one 9) (.rng2 (.lit (.int 1)) (.var 0)) (.cmp .NotEq (.var 9) (.var 3))) .nil))) (.lit (.bl true))) g = .ok (.lst ((SS n (j + 1)).map fun lot => encU (row ++ [sortN (lot ++ [j + 1])])), fl) g := fun row hrow => by
    refine e_comp1 (e := encI) (n := fun _ => 1) (by simp [co, e46']) fun lot hlot => ?_
    have l1 := (mem_lots (SS_lot hlot)).length_le
    have l2 := RR_row n j row hrow
    have a1 : ∀ f2, binV .add (encI lot) (.lst [tI (j + 1)]) 0 f2 = some (encI (lot ++ [j + 1]), 1) := fun f2 => by rw [add_int1 (by omega)]; simp
    have a2 : ∀ f2, binV .add (encU row) (.lst [encI (sortN (lot ++ [j + 1]))]) 0 f2 = some (encU (row ++ [sortN (lot ++ [j + 1])]), 1) := fun f2 => by rw [add_row (by omega)]; simp
    simp [a1, sorted_encI, a2]
  have hc : ∃ fl, eE (eF P W (k + 1)) [some (.int (n : Int)), none, some (.lst ((RRn n j).map encU)), some (tI (j + 1)), none, none, none, none, none, none] (.comp (.comp (.bin .add (.var 7) (.lst (.cons (.bi .sorted (.cons (.bin .add (.var 8) (.lst (.cons (.var 3) .nil))) .nil)) .nil))) [8] (.one 8) (.seq (.call 46 (.cons (.comp (.var 9) [9] (.one 9) (.rng2 (.lit (.int 1)) (.var 0)) (.cmp .NotEq (.var 9) (.var 3))) .nil))) (.lit (.bl true))) [7] (.one 7) (.seq (.var 2)) (.lit (.bl true))) g = .ok (.lst ((RRn n j).map fun row => .lst ((SS n (j + 1)).map fun lot => encU (row ++ [sortN (lot ++ [j + 1])]))), fl) g := by
    have ch : ∀ row ∈ RRn n j, ∃ fl, (match bindTg (.one 7) (encU row) (wipeE [some (.int (n : Int)), none, some (.lst ((RRn n j).map encU)), some (tI (j + 1)), none, none, none, none, none, none] [7]) with
      | none => Out.bad
      | some env' => eE (eF P W (k + 1)) env' (.comp (.bin .add (.var 7) (.lst (.cons (.bi .sorted (.cons (.bin .add (.var 8) (.lst (.cons (.var 3) .nil))) .nil)) .nil))) [8] (.one 8) (.seq (.call 46 (.cons (.comp (.var 9) [9] (.one 9) (.rng2 (.lit (.int 1)) (.var 0)) (.cmp .NotEq (.var 9) (.var 3))) .nil))) (.lit (.bl true))) g) = .ok (.lst ((SS n (j + 1)).map fun lot => encU (row ++ [sortN (lot ++ [j + 1])])), fl) g := fun row hrow => by
      simp only [wipe_one, bind_one, List.set_cons_succ, List.set_cons_zero]
      exact ci row hrow
    refine e_comp1 (e := encU) (xs := RRn n j) (n := fun row => if h : row ∈ RRn n j then Classical.choose (ch row h) else 0) (by simp) fun row hrow => ?_
    have := Classical.choose_spec (ch row hrow)
    simp only [hrow, dif_pos]
    exact this
  obtain ⟨fc, hc⟩ := hc
  have len := RR_len n hn (j + 1) (by omega)
  have len2 : (RRn n (j + 1)).length ≤ 16 := Nat.le_trans len (by
    have : (4 : Nat) ^ (j + 1) ≤ 4 ^ 2 := Nat.pow_le_pow_right (by decide) (by omega)
    exact this)
  have flat : (RRn n j).flatMap (fun row => (SS n (j + 1)).map fun lot => encU (row ++ [sortN (lot ++ [j + 1])])) = (RRn n (j + 1)).map encU := by
    simp only [RRn, List.map_flatMap, List.map_map]
    rfl
  have sz : ((RRn n (j + 1)).map encU).length ≤ sizeL := by
    rw [List.length_map]
    unfold sizeL
    omega
  have sm : biV .sumL [(.lst ((RRn n j).map fun row => .lst ((SS n (j + 1)).map fun lot => encU (row ++ [sortN (lot ++ [j + 1])]))), fc), (.lst [], 2)] = some (.lst ((RRn n (j + 1)).map encU), if fc = 2 then 2 else 1) := by
    rw [sumL_lst, listsOf_map, Option.bind_some, flat, if_pos sz]
  by_cases z : fc = 2
  · subst z
    refine ⟨f0, 2, f3, ?_⟩
    rw [l47_0, ss_nx (g' := g) (env' := [some (.int (n : Int), f0), x1, some (.lst ((RRn n (j + 1)).map encU), 2), some (tI (j + 1), f3), x4, x5, x6, none, none, none]) (by simp [hc, sm])]
    exact ss_nil
  · refine ⟨0, 1, 0, ?_⟩
    rw [l47_0, ss_nx (g' := g) (env' := [some (.int (n : Int), 0), x1, some (.lst ((RRn n (j + 1)).map encU), 1), some (tI (j + 1), 0), x4, x5, x6, none, none, none]) (by simp [hc, sm, z])]
    exact ss_nil
end Fx.K53
end

section
set_option Elab.async false
set_option linter.all false
set_option maxRecDepth 100000
set_option maxHeartbeats 4000000
/-! Eo53: k53, all orders. -/
namespace Fx.K53
open PySem PySem.Spec PyProof.Rows L2 Fx Fx.Om
theorem letters_turn (k : Nat) (g : List T) (j f1 f6 : Nat) (hj : j + 1 ≤ 3) (x0 x2 x3 x4 x5 : Option (T × Nat)) :
    ∃ f1' f6', eSs (eF P W (k + 1)) W l47_1 [x0, some (encL NAB, f1), x2, x3, x4, x5, some (.lst ((LL j).map encM), f6), none, none, none] g = .ok (.nx [x0, some (encL NAB, f1'), x2, x3, x4, x5, some (.lst ((LL (j + 1)).map encM), f6'), none, none, none]) g := by
  obtain ⟨fl, e46⟩ := ev46 srt_str (by decide) k NAB (by decide) g
  have e46' : eF P W (k + 1) 46 [encL NAB] g = .ok (.lst (SN.map encL), fl) g := e46
  have ci : ∀ row ∈ LL j, ∃ fl, eE (eF P W (k + 1)) [none, some (encL NAB), none, none, none, none, some (.lst ((LL j).map encM)), some (encM row), none, none] (.comp (.bin .add (.var 7) (.lst (.cons (.var 8) .nil))) [8] (.one 8) (.seq (.call 46 (.cons (.var 1) .nil))) (.lit (.bl true))) g = .ok (.lst (SN.map fun lot => encM (row ++ [lot])), fl) g := fun row hrow => by
    refine e_comp1 (e := encL) (n := fun _ => 1) (by simp [e46']) fun lot hlot => ?_
    have l2 := LL_row j row hrow
    have a2 : ∀ f2, binV .add (encM row) (.lst [encL lot]) 0 f2 = some (encM (row ++ [lot]), 1) := fun f2 => by rw [add_rowL (by omega)]; simp
    simp [a2]
  have hc : ∃ fl, eE (eF P W (k + 1)) [none, some (encL NAB), none, none, none, none, some (.lst ((LL j).map encM)), none, none, none] (.comp (.comp (.bin .add (.var 7) (.lst (.cons (.var 8) .nil))) [8] (.one 8) (.seq (.call 46 (.cons (.var 1) .nil))) (.lit (.bl true))) [7] (.one 7) (.seq (.var 6)) (.lit (.bl true))) g = .ok (.lst ((LL j).map fun row => .lst (SN.map fun lot => encM (row ++ [lot]))), fl) g := by
    have ch : ∀ row ∈ LL j, ∃ fl, (match bindTg (.one 7) (encM row) (wipeE [none, some (encL NAB), none, none, none, none, some (.lst ((LL j).map encM)), none, none, none] [7]) with
      | none => Out.bad
      | some env' => eE (eF P W (k + 1)) env' (.comp (.bin .add (.var 7) (.lst (.cons (.var 8) .nil))) [8] (.one 8) (.seq (.call 46 (.cons (.var 1) .nil))) (.lit (.bl true))) g) = .ok (.lst (SN.map fun lot => encM (row ++ [lot])), fl) g := fun row hrow => by
      simp only [wipe_one, bind_one, List.set_cons_succ, List.set_cons_zero]
      exact ci row hrow
    refine e_comp1 (e := encM) (xs := LL j) (n := fun row => if h : row ∈ LL j then Classical.choose (ch row h) else 0) (by simp) fun row hrow => ?_
    have := Classical.choose_spec (ch row hrow)
    simp only [hrow, dif_pos]
    exact this
  obtain ⟨fc, hc⟩ := hc
  have len2 : (LL (j + 1)).length ≤ 64 := by
    rw [LL_len]
    have : (4 : Nat) ^ (j + 1) ≤ 4 ^ 3 := Nat.pow_le_pow_right (by decide) (by omega)
    exact this
  have flat : (LL j).flatMap (fun row => SN.map fun lot => encM (row ++ [lot])) = (LL (j + 1)).map encM := by
    simp only [LL, List.map_flatMap, List.map_map]
    rfl
  have sz : ((LL (j + 1)).map encM).length ≤ sizeL := by
    rw [List.length_map]
    unfold sizeL
    omega
  have sm : biV .sumL [(.lst ((LL j).map fun row => .lst (SN.map fun lot => encM (row ++ [lot]))), fc), (.lst [], 2)] = some (.lst ((LL (j + 1)).map encM), if fc = 2 then 2 else 1) := by
    rw [sumL_lst, listsOf_map, Option.bind_some, flat, if_pos sz]
  by_cases z : fc = 2
  · subst z
    refine ⟨f1, 2, ?_⟩
    rw [l47_1, ss_nx (g' := g) (env' := [x0, some (encL NAB, f1), x2, x3, x4, x5, some (.lst ((LL (j + 1)).map encM), 2), none, none, none]) (by simp [hc, sm])]
    exact ss_nil
  · refine ⟨0, 1, ?_⟩
    rw [l47_1, ss_nx (g' := g) (env' := [x0, some (encL NAB, 0), x2, x3, x4, x5, some (.lst ((LL (j + 1)).map encM), 1), none, none, none]) (by simp [hc, sm, z])]
    exact ss_nil
theorem letters_loop (k : Nat) (g : List T) (n f1 : Nat) (hn : n ≤ 3) (x0 x2 x3 x4 x5 : Option (T × Nat)) :
    ∃ f1' x3' f6', forL ((List.range n).map tI) (turnF (eF P W (k + 1)) W (.one 3) l47_1) [x0, some (encL NAB, f1), x2, x3, x4, x5, some (.lst ((LL 0).map encM), 2), none, none, none] g = .ok (.nx [x0, some (encL NAB, f1'), x2, x3', x4, x5, some (.lst ((LL n).map encM), f6'), none, none, none]) g := by
  refine forL_map (b := turnF (eF P W (k + 1)) W (.one 3) l47_1) (e := tI) (I := fun don env g' => g' = g ∧ ∃ f1' x3' f6', env = [x0, some (encL NAB, f1'), x2, x3', x4, x5, some (.lst ((LL don.length).map encM), f6'), none, none, none])
    (Q := fun o => ∃ f1' x3' f6', o = .ok (.nx [x0, some (encL NAB, f1'), x2, x3', x4, x5, some (.lst ((LL n).map encM), f6'), none, none, none]) g) (List.range n) [] _ g ⟨rfl, _, _, _, rfl⟩ (fun pre p post env g' eq hI => ?_) (fun env g' hI => ?_)
  · obtain ⟨rfl, f1', x3', f6', rfl⟩ := hI
    rw [List.nil_append] at eq
    obtain ⟨_, lt⟩ := range_split eq
    obtain ⟨a, b, e⟩ := letters_turn k g' pre.length f1' f6' (by omega) x0 x2 (some (tI p, 2)) x4 x5
    refine ⟨_, g', .inl ?_, rfl, a, some (tI p, 2), b, by rw [List.length_append]⟩
    simp only [turnF, bindV_one]
    exact e
  · obtain ⟨rfl, f1', x3', f6', rfl⟩ := hI
    exact ⟨f1', x3', f6', by simp⟩

/-! ### the facts of the rows -/
theorem sortN_rise {xs : List Nat} (h : xs.Nodup) : Rise (sortN xs) := rise_isort h
theorem mem_sortN {xs : List Nat} {a : Nat} : a ∈ sortN xs ↔ a ∈ xs := Om.mem_isort
theorem others_mem {n w x : Nat} (h : x ∈ othersN n w) : x < n ∧ x ≠ w := by
  simp only [othersN, List.mem_map, List.mem_filter, List.mem_range, bne_iff_ne] at h
  obtain ⟨i, ⟨h1, h2⟩, rfl⟩ := h
  exact ⟨by omega, h2⟩
theorem others_nodup (n w : Nat) : (othersN n w).Nodup := by
  simp only [othersN]
  refine rise_nodup (List.pairwise_map.mpr ?_)
  exact ((rise_range (n - 1)).sublist List.filter_sublist).imp fun h => by omega
/-- what is sure of a row -/
structure Row (n j : Nat) (row : List (List Nat)) : Prop where
  len : row.length = j + 1
  root : row[0]? = some (List.range n)
  each : ∀ i u, row[i]? = some u → Rise u ∧ (∀ x ∈ u, x < n) ∧ i ∈ u
theorem RR_ok (n : Nat) (hn : 0 < n) : ∀ j, j < n → ∀ row ∈ RRn n j, Row n j row
  | 0, _, row, h => by
    simp only [RRn, List.mem_singleton] at h
    subst h
    refine ⟨rfl, rfl, fun i u hu => ?_⟩
    cases i with
    | zero =>
      simp at hu
      subst hu
      exact ⟨rise_range _, fun x hx => List.mem_range.mp hx, List.mem_range.mpr hn⟩
    | succ i => simp at hu
  | j + 1, hj, row, h => by
    simp only [RRn, List.mem_flatMap, List.mem_map] at h
    obtain ⟨r, hr, lot, hlot, rfl⟩ := h
    have ih := RR_ok n hn j (by omega) r hr
    have sub := mem_lots (SS_lot hlot)
    have nd : (lot ++ [j + 1]).Nodup := by
      rw [List.nodup_append]
      refine ⟨(others_nodup n (j + 1)).sublist sub, by simp, fun a ha b hb e => ?_⟩
      rw [List.mem_singleton.mp hb] at e
      exact (others_mem (sub.subset ha)).2 e
    refine ⟨by simp [ih.len], ?_, fun i u hu => ?_⟩
    · rw [List.getElem?_append_left (by rw [ih.len]; omega)]
      exact ih.root
    · by_cases c : i < r.length
      · rw [List.getElem?_append_left c] at hu
        exact ih.each i u hu
      · rw [List.getElem?_append_right (by omega)] at hu
        have i0 : i - r.length = 0 := by
          by_cases z : i - r.length = 0
          · exact z
          · rw [List.getElem?_eq_none (by simp; omega)] at hu
            cases hu
        rw [i0] at hu
        simp at hu
        subst hu
        have il : i = j + 1 := by have := ih.len; omega
        refine ⟨sortN_rise nd, fun x hx => ?_, ?_⟩
        · rw [mem_sortN] at hx
          rcases List.mem_append.mp hx with hx | hx
          · exact (others_mem (sub.subset hx)).1
          · rw [List.mem_singleton.mp hx]; exact hj
        · rw [mem_sortN, il]
          simp
theorem SN_ok {lot : List (List Nat)} (h : lot ∈ SN) : NmAB lot := by
  have h' := mem_sortBy.mp h
  have : ∀ l ∈ lotsR NAB, NmAB l := by
    intro l hl
    have e : lotsR NAB = [[], [[97]], [[98]], [[97], [98]]] := by decide
    rw [e] at hl
    simp only [List.mem_cons, List.not_mem_nil, or_false] at hl
    rcases hl with rfl | rfl | rfl | rfl
    · exact .inl rfl
    · exact .inr (.inl rfl)
    · exact .inr (.inr (.inr rfl))
    · exact .inr (.inr (.inl rfl))
  exact this lot h'
theorem LL_ok : ∀ j, ∀ row ∈ LL j, ∀ l ∈ row, NmAB l
  | 0, row, h, l, hl => by
    simp only [LL, List.mem_singleton] at h
    subst h
    cases hl
  | j + 1, row, h, l, hl => by
    simp only [LL, List.mem_flatMap, List.mem_map] at h
    obtain ⟨r, hr, lot, hlot, rfl⟩ := h
    rcases List.mem_append.mp hl with hl | hl
    · exact LL_ok j r hr l hl
    · rw [List.mem_singleton.mp hl]
      exact SN_ok hlot
theorem pw_of {n : Nat} (hn : 0 < n) (h60 : n ≤ 60) {u : List (List Nat)} {l : List (List (List Nat))} (hu : u ∈ RRn n (n - 1)) (hl : l ∈ LL n) : PW u l := by
  have R := RR_ok n hn (n - 1) (by omega) u hu
  have len : u.length = n := by rw [R.len]; omega
  refine ⟨by omega, by omega, by rw [LL_row n l hl, len], ?_, fun a ha => ?_, fun a ha => ?_, fun i hi => ?_, LL_ok n l hl⟩
  · have := R.root
    rw [List.getElem?_eq_getElem (by omega)] at this
    rw [upAt_eq (by omega)]
    exact (Option.some.inj this).trans (by rw [len])
  · obtain ⟨i, hi, rfl⟩ := List.mem_iff_getElem.mp ha
    exact (R.each i _ (List.getElem?_eq_getElem hi)).1
  · obtain ⟨i, hi, rfl⟩ := List.mem_iff_getElem.mp ha
    rw [len]
    exact (R.each i _ (List.getElem?_eq_getElem hi)).2.1
  · rw [upAt_eq hi]
    exact (R.each i _ (List.getElem?_eq_getElem hi)).2.2
theorem ords_ok {n : Nat} (hn : 0 < n) (h60 : n ≤ 60) {o : List (List Nat) × List (List (List Nat))} (h : o ∈ ordsN n) : WF NmAB o.1 o.2 ∧ o.1.length = n := by
  simp only [ordsN, List.mem_flatMap, List.mem_map, List.mem_filter] at h
  obtain ⟨u, hu, l, ⟨hl, ho⟩, rfl⟩ := h
  have hu := mem_sortBy.mp hu
  have hl := mem_sortBy.mp hl
  have R := RR_ok n hn (n - 1) (by omega) u hu
  exact ⟨PW.wf (pw_of hn h60 hu hl) ho, by show u.length = n; rw [R.len]; omega⟩
/-- a root and worlds that see themselves alone -/
def candU (n : Nat) : Nat → List (List Nat)
  | 0 => [List.range n]
  | j + 1 => candU n j ++ [[j + 1]]
def candL : Nat → List (List (List Nat))
  | 0 => []
  | j + 1 => candL j ++ [[]]
theorem cand_RR (n : Nat) : ∀ j, candU n j ∈ RRn n j
  | 0 => by simp [candU, RRn]
  | j + 1 => by
    simp only [candU, RRn, List.mem_flatMap, List.mem_map]
    exact ⟨candU n j, cand_RR n j, [], mem_sortBy.mpr (nil_lots _), rfl⟩
theorem cand_LL : ∀ j, candL j ∈ LL j
  | 0 => by simp [candL, LL]
  | j + 1 => by
    simp only [candL, LL, List.mem_flatMap, List.mem_map]
    exact ⟨candL j, cand_LL j, [], mem_sortBy.mpr (nil_lots _), rfl⟩
theorem ords_ne {n : Nat} (hn : 0 < n) (h3 : n ≤ 3) : ordsN n ≠ [] := by
  have : (candU n (n - 1), candL n) ∈ ordsN n := by
    simp only [ordsN, List.mem_flatMap, List.mem_map, List.mem_filter]
    refine ⟨_, mem_sortBy.mpr (cand_RR n (n - 1)), _, ⟨mem_sortBy.mpr (cand_LL n), ?_⟩, rfl⟩
    have h : n = 1 ∨ n = 2 ∨ n = 3 := by omega
    rcases h with rfl | rfl | rfl <;> decide
  exact List.ne_nil_of_mem this
theorem ords_len {n : Nat} (hn : 0 < n) (h3 : n ≤ 3) : (ordsN n).length ≤ 1024 := by
  simp only [ordsN, List.length_flatMap, List.length_map]
  have h1 : ∀ u : List (List Nat), ((sortBy encM (LL n)).filter (ordB u)).length ≤ 64 := fun u => by
    refine Nat.le_trans (List.length_filter_le _ _) ?_
    rw [sortBy_length, LL_len]
    have : (4 : Nat) ^ n ≤ 4 ^ 3 := Nat.pow_le_pow_right (by decide) h3
    exact this
  have h2 : (sortBy encU (RRn n (n - 1))).length ≤ 16 := by
    rw [sortBy_length]
    refine Nat.le_trans (RR_len n h3 (n - 1) (by omega)) ?_
    have : (4 : Nat) ^ (n - 1) ≤ 4 ^ 2 := Nat.pow_le_pow_right (by decide) (by omega)
    exact this
  have h3 : ∀ xs : List (List (List Nat)), (xs.map fun u => ((sortBy encM (LL n)).filter (ordB u)).length).sum ≤ xs.length * 64 := by
    intro xs
    induction xs with
    | nil => simp
    | cons x xs ih =>
      have := h1 x
      simp only [List.map_cons, List.sum_cons, List.length_cons]
      omega
  have := h3 (sortBy encU (RRn n (n - 1)))
  omega

def encP (o : List (List Nat) × List (List (List Nat))) : T := encO o.1 o.2
theorem rows_loop (k : Nat) (g : List T) (n f1 : Nat) (h1 : 0 < n) (hn : n ≤ 3) (x1 x4 x5 x6 : Option (T × Nat)) :
    ∃ f0' x3' f2', forL ((List.range (n - 1)).map fun i => tI (i + 1)) (turnF (eF P W (k + 1)) W (.one 3) l47_0) [some (.int (n : Int), 0), x1, some (.lst ((RRn n 0).map encU), 2), none, x4, x5, x6, none, none, none] g = .ok (.nx [some (.int (n : Int), f0'), x1, some (.lst ((RRn n (n - 1)).map encU), f2'), x3', x4, x5, x6, none, none, none]) g := by
  refine forL_map (b := turnF (eF P W (k + 1)) W (.one 3) l47_0) (e := fun i => tI (i + 1)) (I := fun don env g' => g' = g ∧ ∃ f0' x3' f2', env = [some (.int (n : Int), f0'), x1, some (.lst ((RRn n don.length).map encU), f2'), x3', x4, x5, x6, none, none, none])
    (Q := fun o => ∃ f0' x3' f2', o = .ok (.nx [some (.int (n : Int), f0'), x1, some (.lst ((RRn n (n - 1)).map encU), f2'), x3', x4, x5, x6, none, none, none]) g) (List.range (n - 1)) [] _ g ⟨rfl, _, _, _, rfl⟩ (fun pre p post env g' eq hI => ?_) (fun env g' hI => ?_)
  · obtain ⟨rfl, f0', x3', f2', rfl⟩ := hI
    rw [List.nil_append] at eq
    obtain ⟨rfl, lt⟩ := range_split eq
    obtain ⟨a, b, c, e⟩ := rows_turn k n hn g' pre.length f0' f2' 2 (by omega) x1 x4 x5 x6
    refine ⟨_, g', .inl ?_, rfl, a, some (tI (pre.length + 1), c), b, by rw [List.length_append]⟩
    simp only [turnF, bindV_one]
    exact e
  · obtain ⟨rfl, f1', x3', f6', rfl⟩ := hI
    exact ⟨f1', x3', f6', by simp⟩
theorem add_ords {L M : List (List (List Nat) × List (List (List Nat)))} {f1 f2 : Nat} (h : L.length + M.length ≤ 100000) : binV .add (.lst (L.map encP)) (.lst (M.map encP)) f1 f2 = some (.lst ((L ++ M).map encP), fl2 f1 f2) := by
  rw [add_lst (by simp; omega), List.map_append]
theorem orders_turn (k : Nat) (g : List T) (n f0 f1 f2 f4 : Nat) (h1 : 0 < n) (hn : n ≤ 3) (x3 x5 x6 : Option (T × Nat)) (O : List (List (List Nat) × List (List (List Nat)))) (hO : O.length ≤ 2000) {u : List (List Nat)} (hu : u ∈ RRn n (n - 1)) :
    ∃ f0' f1' x3' f5' x6', turnF (eF P W (k + 3)) W (.one 5) l47_2 (encU u) [some (.int (n : Int), f0), some (encL NAB, f1), some (.lst ((RRn n (n - 1)).map encU), f2), x3, some (.lst (O.map encP), f4), x5, x6, none, none, none] g = .ok (.nx [some (.int (n : Int), f0'), some (encL NAB, f1'), some (.lst ((RRn n (n - 1)).map encU), f2), x3', some (.lst ((O ++ ((sortBy encM (LL n)).filter (ordB u)).map fun l => (u, l)).map encP), 1), f5', x6', none, none, none]) g := by
  obtain ⟨f1', x3', f6', el⟩ := letters_loop (k + 2) g n f1 hn (some (.int (n : Int), 0)) (some (.lst ((RRn n (n - 1)).map encU), f2)) x3 (some (.lst (O.map encP), f4)) (some (encU u, 0))
  have hc : ∃ fl, eE (eF P W (k + 3)) [none, none, none, none, some (.lst (O.map encP)), some (encU u), some (.lst ((LL n).map encM)), none, none, none] (.comp (.tup (.cons (.var 5) (.cons (.var 7) .nil))) [7] (.one 7) (.seq (.bi .sorted (.cons (.var 6) .nil))) (.call 45 (.cons (.tup (.cons (.var 5) (.cons (.var 7) .nil))) .nil))) g = .ok (.lst ((((sortBy encM (LL n)).filter (ordB u)).map fun l => (u, l)).map encP), fl) g := by
    refine ⟨if allFl (((sortBy encM (LL n)).filter (ordB u)).map fun l => (encO u l, 0)) = true then 2 else 1, (e_comp (e := encM) (xs := sortBy encM (LL n)) (p := ordB u) (r := fun l => (encO u l, 0)) (by simp [sorted_enc srt_encM]) fun l hl => ?_).trans ?_⟩
    · have e45 : eF P W (k + 3) 45 [.tup [encU u, encM l]] g = .ok (.bl (ordB u l), 2) g := ev45 k (pw_of h1 (by omega) hu (mem_sortBy.mp hl)) g
      have eo : encO u l = .tup [encU u, encM l] := rfl
      rw [eo]
      cases c : ordB u l <;> simp [e45, c]
    · rw [List.map_map]
      rfl
  obtain ⟨fl, hc⟩ := hc
  have fl64 : ((sortBy encM (LL n)).filter (ordB u)).length ≤ 64 := by
    refine Nat.le_trans (List.length_filter_le _ _) ?_
    rw [sortBy_length, LL_len]
    have : (4 : Nat) ^ n ≤ 4 ^ 3 := Nat.pow_le_pow_right (by decide) hn
    exact this
  have ad : binV .add (.lst (O.map encP)) (.lst ((((sortBy encM (LL n)).filter (ordB u)).map fun l => (u, l)).map encP)) 0 fl = some (.lst ((O ++ ((sortBy encM (LL n)).filter (ordB u)).map fun l => (u, l)).map encP), 1) := by
    rw [add_ords (by rw [List.length_map]; omega), fl2_0]
  generalize ((sortBy encM (LL n)).filter (ordB u)).map (fun l => (u, l)) = M at hc ad ⊢
  refine ⟨0, f1', x3', some (encU u, 0), some (.lst ((LL n).map encM), 0), ?_⟩
  simp only [turnF, bindV_one, l47_2, norm_encU, List.set_cons_succ, List.set_cons_zero]
  rw [ss_nx (g' := g) (env' := [some (.int (n : Int), f0), some (encL NAB, f1), some (.lst ((RRn n (n - 1)).map encU), f2), x3, some (.lst (O.map encP), f4), some (encU u, 0), some (.lst ((LL 0).map encM), 2), none, none, none]) (by simp [LL, encM]),
    ss_nx (g' := g) (env' := [some (.int (n : Int), 0), some (encL NAB, f1'), some (.lst ((RRn n (n - 1)).map encU), f2), x3', some (.lst (O.map encP), f4), some (encU u, 0), some (.lst ((LL n).map encM), f6'), none, none, none]) (by
      rw [s_for, rng_nat (n := n) (v := 0) (by simp) (by omega), Out.bind_ok]
      simpa using el),
    ss_nx (g' := g) (env' := [some (.int (n : Int), 0), some (encL NAB, f1'), some (.lst ((RRn n (n - 1)).map encU), f2), x3', some (.lst ((O ++ M).map encP), 1), some (encU u, 0), some (.lst ((LL n).map encM), 0), none, none, none]) (by
      simp only [s_set, only_cons, only_nil]
      simp [hc]
      simp at ad
      simp [ad])]
  exact ss_nil
theorem ev47 (k : Nat) (n : Nat) (h1 : 0 < n) (hn : n ≤ 3) (g : List T) : ∃ fl, eF P W (k + 4) 47 [.int (n : Int), encL NAB] g = .ok (.lst ((ordsN n).map encP), fl) g := by
  rw [uf47, b47_eq]
  have hr : eE (eF P W (k + 3)) [some (.int (n : Int)), none, none, none, none, none, none, none, none, none] (.lrng1 (.var 0)) g = .ok (encI (List.range n), 2) g := lrng_nat (v := 0) (by simp) (by omega)
  obtain ⟨f0', x3', f2', er⟩ := rows_loop (k + 2) g n 0 h1 hn (some (encL NAB, 0)) none none none
  have e1 : T.lst [T.lst [encI (List.range n)]] = .lst ((RRn n 0).map encU) := rfl
  rw [ss_nx (g' := g) (env' := [some (.int (n : Int), 0), some (encL NAB, 0), some (.lst ((RRn n 0).map encU), 2), none, none, none, none, none, none, none]) (by simp [hr, ← e1, isFlat2]),
    ss_nx (g' := g) (env' := [some (.int (n : Int), f0'), some (encL NAB, 0), some (.lst ((RRn n (n - 1)).map encU), f2'), x3', none, none, none, none, none, none]) (by
      rw [s_for, rng2_nat (n := n) (v := 2) (w := 0) (by simp) (by simp) (by omega), Out.bind_ok]
      simpa using er),
    ss_nx (g' := g) (env' := [some (.int (n : Int), f0'), some (encL NAB, 0), some (.lst ((RRn n (n - 1)).map encU), f2'), x3', some (.lst (([] : List (List (List Nat) × List (List (List Nat)))).map encP), 2), none, none, none, none, none]) (by simp)]
  have loop := forL_map (b := turnF (eF P W (k + 3)) W (.one 5) l47_2) (e := encU) (I := fun don env g' => g' = g ∧ ∃ f0 f1 f2 x3 f4 x5 x6, env = [some (.int (n : Int), f0), some (encL NAB, f1), some (.lst ((RRn n (n - 1)).map encU), f2), x3, some (.lst ((don.flatMap fun u => ((sortBy encM (LL n)).filter (ordB u)).map fun l => (u, l)).map encP), f4), x5, x6, none, none, none])
    (Q := fun o => ∃ f0 f1 f2 x3 f4 x5 x6, o = .ok (.nx [some (.int (n : Int), f0), some (encL NAB, f1), some (.lst ((RRn n (n - 1)).map encU), f2), x3, some (.lst ((ordsN n).map encP), f4), x5, x6, none, none, none]) g) (sortBy encU (RRn n (n - 1))) []
    [some (.int (n : Int), f0'), some (encL NAB, 0), some (.lst ((RRn n (n - 1)).map encU), 0), x3', some (.lst (([] : List (List (List Nat) × List (List (List Nat)))).map encP), 2), none, none, none, none, none] g ⟨rfl, _, _, _, _, _, _, _, rfl⟩ (fun pre u post env g' eq hI => ?_) (fun env g' hI => ?_)
  · obtain ⟨f0, f1, f2, x3, f4, x5, x6, el⟩ := loop
    refine ⟨f4, ?_⟩
    rw [ss_nx (g' := g) (env' := [some (.int (n : Int), f0), some (encL NAB, f1), some (.lst ((RRn n (n - 1)).map encU), f2), x3, some (.lst ((ordsN n).map encP), f4), x5, x6, none, none, none]) (by
      rw [s_for]
      have := sorted_enc srt_encU (f := 0) (by decide) (RRn n (n - 1))
      simp at el
      simp [this, el])]
    simp [ss_cons]
  · obtain ⟨rfl, f0, f1, f2, x3, f4, x5, x6, rfl⟩ := hI
    rw [List.nil_append] at eq
    have um : u ∈ RRn n (n - 1) := mem_sortBy.mp (by rw [eq]; simp)
    have len : (pre.flatMap fun u => ((sortBy encM (LL n)).filter (ordB u)).map fun l => (u, l)).length ≤ 2000 := by
      have h := ords_len h1 hn
      simp only [ordsN, eq, List.flatMap_append, List.length_append] at h
      omega
    obtain ⟨a, b, c, d, e, h⟩ := orders_turn k g' n f0 f1 f2 f4 h1 hn x3 x5 x6 _ len um
    refine ⟨_, g', .inl h, rfl, a, b, f2, c, 1, d, e, ?_⟩
    rw [List.flatMap_append]
    simp
  · obtain ⟨rfl, f0, f1, f2, x3, f4, x5, x6, rfl⟩ := hI
    exact ⟨f0, f1, f2, x3, f4, x5, x6, by rw [List.nil_append]; rfl⟩
end Fx.K53
end

section
set_option Elab.async false
set_option linter.all false
set_option maxRecDepth 100000
set_option maxHeartbeats 4000000
/-! Ep53: k53, what is drawn. -/
namespace Fx.K53
open PySem PySem.Spec PyProof.Rows L2 Fx Fx.Om
/-! ### sizes of numbers -/
def Bd (k : Nat) (i : Int) : Prop := i.natAbs < 2 ^ k
theorem Bd.log {k : Nat} {i : Int} (h : Bd k i) : i.natAbs.log2 ≤ k := by
  by_cases z : i.natAbs = 0
  · rw [z, Nat.log2_zero]
    exact Nat.zero_le _
  · have := (Nat.log2_lt z).mpr h
    omega
theorem Bd.mul {k l : Nat} {i j : Int} (h : Bd k i) (h' : Bd l j) : Bd (k + l) (i * j) := by
  unfold Bd at *
  rw [Int.natAbs_mul, Nat.pow_add]
  exact Nat.mul_lt_mul'' h h'
theorem mulOk_of {k l : Nat} {i j : Int} (h : Bd k i) (h' : Bd l j) (hk : k ≤ 1000) (hl : l ≤ 1000) : mulOk i j = true := by
  have := h.log
  have := h'.log
  exact decide_eq_true (by omega)
theorem bd_of {k : Nat} {i : Int} (h0 : 0 ≤ i) (h1 : i < 2 ^ k) : Bd k i := by
  unfold Bd
  have e : ((i.natAbs : Nat) : Int) < ((2 ^ k : Nat) : Int) := by
    rw [Int.natAbs_of_nonneg h0]
    simpa using h1
  exact_mod_cast e
section
variable {f1 f2 : Nat} {i j : Int}
theorem mul_int (h : mulOk i j = true) : binV .mul (.int i) (.int j) f1 f2 = some (.int (i * j), 2) := by
  simp [binV, binI, h]
theorem mod_int (h : divOk j = true) : binV .mod (.int i) (.int j) f1 f2 = some (.int (i % j), 2) := by
  simp [binV, binI, h]
theorem fdiv_int (h : divOk j = true) : binV .fdiv (.int i) (.int j) f1 f2 = some (.int (i / j), 2) := by
  simp [binV, binI, h]
end
theorem divOk_nat {n : Nat} (h : 0 < n) (h' : n < 2 ^ 20) : divOk (n : Int) = true := by
  have := (bd_of (k := 20) (i := (n : Int)) (by omega) (by exact_mod_cast h')).log
  simp only [divOk, Bool.and_eq_true, decide_eq_true_eq]
  omega

/-! ### the generator -/
def Gs (n : Nat) (C : Int) (g : List T) : Prop := ∃ a b c : Int, g[n]? = some (.lst [.int a, .int b, .int c]) ∧ 0 ≤ b ∧ b < 2147483647 ∧ 0 ≤ c ∧ c ≤ C
theorem Gs.mono {n : Nat} {C C' : Int} {g : List T} (h : Gs n C g) (le : C ≤ C') : Gs n C' g := by
  obtain ⟨a, b, c, e, h1, h2, h3, h4⟩ := h
  exact ⟨a, b, c, e, h1, h2, h3, Int.le_trans h4 le⟩
theorem ev34 (k : Nat) {s i : Int} (hs : 0 ≤ s) (hs' : s < 2147483647) (hi : 0 ≤ i) (hi' : i ≤ 1000000) (g : List T) : ∃ r, eF P W (k + 1) 34 [.int s, .int i] g = .ok (.int r, 2) g := by
  rw [uf34, b34]
  have bs : Bd 31 s := bd_of hs (by omega)
  have bi : Bd 20 i := bd_of hi (by omega)
  have bc1 : Bd 21 1140671 := by unfold Bd; decide
  have bc2 : Bd 25 27644437 := by unfold Bd; decide
  have bc3 : Bd 8 131 := by unfold Bd; decide
  have bc4 : Bd 16 62089 := by unfold Bd; decide
  have bc5 : Bd 16 48271 := by unfold Bd; decide
  have m1 := mulOk_of bs bc1 (by decide) (by decide)
  have m2 := mulOk_of bc2 bi (by decide) (by decide)
  have m3 := mulOk_of (bc2.mul bi) bi (by decide) (by decide)
  have m4 := mulOk_of bc3 bi (by decide) (by decide)
  have d1 : divOk 2147483629 = true := by decide
  have d2 : divOk 2147483587 = true := by decide
  have d3 : divOk 2147483647 = true := by decide
  generalize hx : (s * 1140671 + 27644437 * i * i + 131 * i + 19) % 2147483629 = x
  have x0 : 0 ≤ x := by rw [← hx]; exact Int.emod_nonneg _ (by decide)
  have x1 : x < 2147483629 := by rw [← hx]; exact Int.emod_lt_of_pos _ (by decide)
  have bx : Bd 31 x := bd_of x0 (by omega)
  have m5 := mulOk_of bx bx (by decide) (by decide)
  have m6 := mulOk_of bc4 bi (by decide) (by decide)
  generalize hy : (x * x + 62089 * i + 32416187) % 2147483587 = y
  have y0 : 0 ≤ y := by rw [← hy]; exact Int.emod_nonneg _ (by decide)
  have y1 : y < 2147483587 := by rw [← hy]; exact Int.emod_lt_of_pos _ (by decide)
  have by_ : Bd 31 y := bd_of y0 (by omega)
  have m7 := mulOk_of by_ bc5 (by decide) (by decide)
  refine ⟨y * 48271 % 2147483647, ?_⟩
  rw [ss_nx (g' := g) (env' := [some (.int s, 0), some (.int i, 0), some (.int x, 2)]) (by simp [mul_int m1, mul_int m2, mul_int m3, mul_int m4, mod_int d1, hx]),
    ss_nx (g' := g) (env' := [some (.int s, 0), some (.int i, 0), some (.int y, 2)]) (by simp [mul_int m5, mul_int m6, mod_int d2, hy])]
  simp [ss_cons, mul_int m7, mod_int d3]
theorem idx_cell {g : List T} {n f : Nat} {ts : List T} {i : Int} (h : g[n]? = some (.lst ts)) : idxV g (.cell n) (.int i) f = (atI ts i).map fun t => (t, 0) := by
  simp [idxV, h]
theorem ev35 (k : Nat) {n : Nat} {C : Int} {g : List T} (h : Gs n C g) (hC : C < 1000000) {b : Nat} (hb : 0 < b) (hb' : b < 2 ^ 20) : ∃ (r : Nat) (g' : List T), eF P W (k + 2) 35 [.cell n, .int (b : Int)] g = .ok (tI r, 2) g' ∧ r < b ∧ Gs n (C + 1) g' ∧ g'.length = g.length := by
  obtain ⟨a, s, c, e, s0, s1, c0, c1⟩ := h
  have hd := divOk_nat hb hb'
  have nl : n < g.length := by
    by_cases z : n < g.length
    · exact z
    · rw [List.getElem?_eq_none (by omega)] at e; cases e
  have bpos : (0 : Int) < (b : Int) := by omega
  have fin (z : Int) : ∃ r : Nat, z % (b : Int) = (r : Int) ∧ r < b := by
    have h1 := Int.emod_nonneg z (show (b : Int) ≠ 0 by omega)
    have h2 := Int.emod_lt_of_pos z bpos
    exact ⟨(z % (b : Int)).toNat, by omega, by omega⟩
  by_cases pos : 0 < a
  · obtain ⟨r, er, rl⟩ := fin a
    refine ⟨r, g.set n (.lst [.int (a / b), .int s, .int c]), ?_, rl, ⟨a / b, s, c, by simp [nl], s0, s1, c0, by omega⟩, by simp⟩
    rw [uf35, b35_eq]
    rw [ss_rt (g' := g.set n (.lst [.int (a / b), .int s, .int c])) (x := (tI r, 2)) (by
      simp [idx_cell e, pos, ss_cons, mod_int hd, fdiv_int hd, setiV, e, ixL, er])]
    simp
  · obtain ⟨z, ez⟩ := ev34 k (s := s) (i := c + 1) s0 s1 (by omega) (by omega) (g.set n (.lst [.int a, .int s, .int (c + 1)]))
    obtain ⟨r, er, rl⟩ := fin z
    refine ⟨r, g.set n (.lst [.int a, .int s, .int (c + 1)]), ?_, rl, ⟨a, s, c + 1, by simp [nl], s0, s1, by omega, by omega⟩, by simp⟩
    rw [uf35, b35_eq]
    have bits : ∃ m : Nat, m < 30 ∧ biV .bits [(.int (b : Int), 0)] = some (.int (m : Int), 2) := by
      have bz : (b : Int) ≠ 0 := by omega
      refine ⟨(b : Int).natAbs.log2 + 1, ?_, ?_⟩
      · have := (bd_of (k := 20) (i := (b : Int)) (by omega) (by exact_mod_cast hb')).log
        omega
      · show some (T.int (if (b : Int) = 0 then 0 else ((b : Int).natAbs.log2 : Int) + 1), 2) = _
        rw [if_neg bz]
        rfl
    obtain ⟨m, m30, em⟩ := bits
    have md : ((m : Int) / 30) = 0 := by omega
    have d30 : divOk 30 = true := by decide
    have m0 : mulOk 0 2147483587 = true := by decide
    have one : eIt (eF P W (k + 1)) [none, some (.int (b : Int)), none, none] (.rng1 (.bin .add (.lit (.int 1)) (.bin .fdiv (.bi .bits (.cons (.var 1) .nil)) (.lit (.int 30))))) g = .ok ((List.range 1).map tI) g :=
      rng_nat (n := 1) (v := 2) (by simp [em, fdiv_int d30, md]) (by decide)
    let g' := g.set n (.lst [.int a, .int s, .int (c + 1)])
    have e' : g'[n]? = some (.lst [.int a, .int s, .int (c + 1)]) := by simp [g', nl]
    rw [ss_nx (g' := g) (env' := [some (.cell n, 0), some (.int (b : Int), 0), none, none]) (by simp [idx_cell e, pos]),
      ss_nx (g' := g) (env' := [some (.cell n, 0), some (.int (b : Int), 0), some (.int 0, 2), none]) (by simp),
      ss_nx (g' := g') (env' := [some (.cell n, 0), some (.int (b : Int), 0), some (.int z, 2), some (tI 0, 2)]) (by
        rw [s_for]
        simp [one, forL, turnF, l35_0]
        rw [ss_nx (g' := g') (env' := [some (.cell n, 0), some (.int (b : Int), 0), some (.int 0, 2), some (tI 0, 2)]) (by
          simp [idx_cell e, setiV, e, ixL, g']),
          ss_nx (g' := g') (env' := [some (.cell n, 0), some (.int (b : Int), 0), some (.int z, 2), some (tI 0, 2)]) (by
          have ez' : eF P W (k + 1) 34 [T.int s, T.int (c + 1)] g' = Out.ok (T.int z, 2) g' := ez
          simp [idx_cell e', mul_int m0, ez'])]
        simp)]
    simp [ss_cons, mod_int hd, er]
    rfl
theorem ev38 (k : Nat) {n : Nat} {C : Int} {g : List T} (h : Gs n C g) (hC : C < 1000000) {ts : List T} (hb : 0 < ts.length) (hb' : ts.length < 2 ^ 20) :
    ∃ (t : T) (g' : List T), t ∈ ts ∧ eF P W (k + 3) 38 [.cell n, .lst ts] g = .ok (norm (t, 0)) g' ∧ Gs n (C + 1) g' ∧ g'.length = g.length := by
  obtain ⟨r, g', e, hr, h', hl⟩ := ev35 k h hC hb hb'
  refine ⟨ts[r], g', List.getElem_mem hr, ?_, h', hl⟩
  rw [uf38]
  have ia : atI ts (r : Int) = some ts[r] := by rw [atI_nat, List.getElem?_eq_getElem hr]
  simp [b38, ss_cons, e, ia]
theorem ev36 (k : Nat) (ns : List Int) (j : Nat) (g : List T) : ∃ i, eF P W (k + 1) 36 [.fro (ns.map T.int), .int (j : Int)] g = .ok (.int i, 2) g := by
  rw [uf36]
  by_cases c : j < ns.length
  · refine ⟨ns[j], ?_⟩
    have ia : atI (ns.map T.int) (j : Int) = some (T.int ns[j]) := by rw [atI_nat, List.getElem?_map, List.getElem?_eq_getElem c]; rfl
    have c' : (j : Int) < (ns.length : Int) := by omega
    simp [b36, ss_cons, c', ia]
  · have c' : ¬ ((j : Int) < (ns.length : Int)) := by omega
    have d : divOk 1000003 = true := by decide
    have sl : slcV (.fro (ns.map T.int)) none (some 1) 0 = some (.lst ((ns.map T.int).take 1), 1) := by
      simp [slcV, cutT, cutN]
    have si : ∀ (xs : List Int), intsOf (xs.map T.int) = some xs := by
      intro xs
      induction xs with
      | nil => rfl
      | cons x xs ih => simp [intsOf, ih]
    have sm : biV .sumI [(.lst ((ns.map T.int).take 1), 1)] = some (.int (ns.take 1).sum, 2) := by
      show (intsOf ((ns.map T.int).take 1)).map _ = _
      rw [← List.map_take, si]
      rfl
    refine ⟨(ns.take 1).sum % 1000003, ?_⟩
    simp [b36, ss_cons, c', partOf, isNonE, sl, sm, mod_int d]
theorem ev37 (k : Nat) (ns : List Int) (j : Nat) (hj : j ≤ 100) (g : List T) : ∃ a b c : Int, eF P W (k + 2) 37 [.fro (ns.map T.int), .int (j : Int)] g = .ok (.lst [.int a, .int b, .int c], 2) g ∧ 0 ≤ b ∧ b < 2147483647 ∧ 0 ≤ c ∧ c ≤ 100000 := by
  obtain ⟨i, e⟩ := ev36 k ns j g
  rw [uf37, b37]
  have pw : ∀ i j : Int, powOk i j = true → binV .pow (.int i) (.int j) 2 2 = some (.int (i ^ j.toNat), 2) := fun i j h => by simp [binV, binI, h]
  obtain ⟨q18, e18⟩ : ∃ q : Int, q = 10 ^ (18 : Int).toNat := ⟨_, rfl⟩
  obtain ⟨q60, e60⟩ : ∃ q : Int, q = 10 ^ (60 : Int).toNat := ⟨_, rfl⟩
  obtain ⟨q600, e600⟩ : ∃ q : Int, q = q60 ^ (10 : Int).toNat := ⟨_, rfl⟩
  have p1 := pw 10 18 (by decide +kernel)
  have p2 := pw 10 60 (by decide +kernel)
  have p3 := pw q60 10 (by rw [e60]; decide +kernel)
  have d1 : divOk q600 = true := by rw [e600, e60]; decide +kernel
  rw [← e18] at p1
  rw [← e60] at p2
  rw [← e600] at p3
  have d2 : divOk 2147483647 = true := by decide
  have m1 : mulOk 1000 (j : Int) = true := mulOk_of (k := 10) (l := 10) (by unfold Bd; decide) (bd_of (by omega) (by omega)) (by decide) (by decide)
  clear e18 e60 e600
  refine ⟨(if 0 > i - q18 then 0 else i - q18) % q600, i % 2147483647, 1000 * j, ?_, Int.emod_nonneg _ (by decide), Int.emod_lt_of_pos _ (by decide), by omega, by omega⟩
  rw [ss_nx (g' := g) (env' := [some (.fro (ns.map T.int), 0), some (.int (j : Int), 0), some (.int i, 2)]) (by simp [e])]
  simp only [ss_cons, s_ret, only_cons, only_nil, x_lst, xs_cons, xs_nil, x_bin, x_bi, x_lit, x_var]
  simp [p1, p2, p3, mod_int d1, mod_int d2, mul_int m1]
end Fx.K53
end

section
set_option Elab.async false
set_option linter.all false
set_option maxRecDepth 100000
set_option maxHeartbeats 4000000
/-! Eq53: k53, drawn formulas, drawn orders. -/
namespace Fx.K53
open PySem PySem.Spec PyProof.Rows L2 Fx Fx.Om
def cst : Nat → Nat
  | 0 => 2
  | d + 1 => 2 + 2 * cst d
def szB : Nat → Nat
  | 0 => 1
  | d + 1 => 1 + 2 * szB d
theorem szB_pos (d : Nat) : 0 < szB d := by cases d <;> simp [szB] <;> omega
theorem pick_letter (k : Nat) {n : Nat} {C : Int} {g : List T} (h : Gs n C g) (hC : C < 1000000) : ∃ (s : List Nat) (g' : List T), s ∈ NAB ∧ eF P W (k + 3) 38 [.cell n, encL NAB] g = .ok (.str s, 2) g' ∧ Gs n (C + 1) g' ∧ g'.length = g.length := by
  obtain ⟨t, g', ht, e, h', hl⟩ := ev38 k h hC (ts := NAB.map T.str) (by decide) (by decide)
  obtain ⟨s, hs, rfl⟩ := List.mem_map.mp ht
  exact ⟨s, g', hs, e, h', hl⟩
theorem ev40 : ∀ (d : Nat) (K n : Nat) (C : Int) (g : List T), Gs n C g → C + cst d < 1000000 → d + 4 ≤ K →
    ∃ (f : Fm) (g' : List T), eF P W K 40 [.cell n, encL NAB, .int (d : Int)] g = .ok (encF f, 2) g' ∧ okF NAB f ∧ dep f ≤ d ∧ siz f ≤ szB d ∧ Gs n (C + cst d) g' ∧ g'.length = g.length
  | 0, K, n, C, g, h, hC, hK => by
    obtain ⟨k, rfl⟩ : ∃ k, K = k + 4 := ⟨K - 4, by omega⟩
    simp only [cst] at hC
    obtain ⟨r, g1, e1, hr, h1, l1⟩ := ev35 (k + 1) h (by omega) (b := 4) (by decide) (by decide)
    have e1 : eF P W (k + 3) 35 [.cell n, .int 4] g = .ok (tI r, 2) g1 := e1
    rw [uf40, b40]
    by_cases c : r < 3
    · obtain ⟨s, g2, hs, e2, h2, l2⟩ := pick_letter k h1 (by omega)
      refine ⟨.is s, g2, ?_, hs, Nat.le_refl _, by simp [siz, szB], h2.mono (by simp only [cst]; omega), by omega⟩
      have c' : (r : Int) < 3 := by omega
      rw [ss_nx (g' := g1) (env' := [some (.cell n, 0), some (encL NAB, 0), some (.int ((0 : Nat) : Int), 0), some (tI r, 2), none]) (by simp [e1]),
        ss_rt (g' := g2) (x := (encF (.is s), 2)) (by simp [c, c', ss_cons, e2, encF])]
      simp
    · have r3 : r = 3 := by omega
      subst r3
      refine ⟨.no, g1, ?_, trivial, Nat.le_refl _, by simp [siz, szB], h1.mono (by simp only [cst]; omega), l1⟩
      rw [ss_nx (g' := g1) (env' := [some (.cell n, 0), some (encL NAB, 0), some (.int ((0 : Nat) : Int), 0), some (tI 3, 2), none]) (by simp [e1]),
        ss_nx (g' := g1) (env' := [some (.cell n, 0), some (encL NAB, 0), some (.int ((0 : Nat) : Int), 0), some (tI 3, 2), none]) (by simp),
        ss_rt (g' := g1) (x := (encF .no, 2)) (by simp [ss_cons, encF])]
      simp
  | d + 1, K, n, C, g, h, hC, hK => by
    obtain ⟨k, rfl⟩ : ∃ k, K = k + 5 := ⟨K - 5, by omega⟩
    simp only [cst] at hC
    have sp := szB_pos d
    obtain ⟨r, g1, e1, hr, h1, l1⟩ := ev35 (k + 2) h (by omega) (b := 10) (by decide) (by decide)
    have e1 : eF P W (k + 4) 35 [.cell n, .int 10] g = .ok (tI r, 2) g1 := e1
    have pos : (0 : Int) < ((d + 1 : Nat) : Int) := by omega
    have sub : ((d + 1 : Nat) : Int) - 1 = (d : Int) := by omega
    have first : eS (eF P W (k + 4)) W (.set 3 [0, 2] (.ite (.cmp .Gt (.var 2) (.lit (.int 0))) (.call 35 (.cons (.var 0) (.cons (.lit (.int 10)) .nil))) (.call 35 (.cons (.var 0) (.cons (.lit (.int 4)) .nil))))) [some (.cell n, 0), some (encL NAB, 0), some (.int ((d + 1 : Nat) : Int), 0), none, none] g = .ok (.nx [some (.cell n, 0), some (encL NAB, 0), some (.int ((d + 1 : Nat) : Int), 0), some (tI r, 2), none]) g1 := by
      have pos' : (0 : Int) < (d : Int) + 1 := by omega
      simp [pos', e1]
    rw [uf40, b40, ss_nx first]
    by_cases c : r < 3
    · obtain ⟨s, g2, hs, e2, h2, l2⟩ := pick_letter (k + 1) h1 (by omega)
      refine ⟨.is s, g2, ?_, hs, Nat.zero_le _, by simp only [siz, szB]; omega, h2.mono (by simp only [cst]; omega), by omega⟩
      have c' : (r : Int) < 3 := by omega
      rw [ss_rt (g' := g2) (x := (encF (.is s), 2)) (by simp [c, c', ss_cons, e2, encF])]
      simp
    · have c' : ¬ ((r : Int) < 3) := by omega
      rw [ss_nx (g' := g1) (env' := [some (.cell n, 0), some (encL NAB, 0), some (.int ((d + 1 : Nat) : Int), 0), some (tI r, 2), none]) (by simp [c, c'])]
      by_cases c3 : r = 3
      · subst c3
        refine ⟨.no, g1, ?_, trivial, Nat.zero_le _, by simp only [siz, szB]; omega, h1.mono (by simp only [cst]; omega), l1⟩
        rw [ss_rt (g' := g1) (x := (encF .no, 2)) (by simp [ss_cons, encF])]
        simp
      · have c3' : ((r : Int) == 3) = false := beq_eq_false_iff_ne.mpr (by omega)
        rw [ss_nx (g' := g1) (env' := [some (.cell n, 0), some (encL NAB, 0), some (.int ((d + 1 : Nat) : Int), 0), some (tI r, 2), none]) (by simp [c3'])]
        by_cases c4 : r = 4
        · subst c4
          obtain ⟨f, g2, e2, o2, d2, s2, h2, l2⟩ := ev40 d (k + 4) n (C + 1) g1 h1 (by omega) (by omega)
          refine ⟨.thn f .no, g2, ?_, ⟨o2, trivial⟩, by simp only [dep]; omega, by simp only [siz, szB]; omega, h2.mono (by simp only [cst]; omega), by omega⟩
          have sub' : (d : Int) + 1 - 1 = (d : Int) := by omega
          rw [ss_rt (g' := g2) (x := (encF (.thn f .no), 2)) (by simp [ss_cons, sub', e2, encF])]
          simp
        · have c4' : ((r : Int) == 4) = false := beq_eq_false_iff_ne.mpr (by omega)
          rw [ss_nx (g' := g1) (env' := [some (.cell n, 0), some (encL NAB, 0), some (.int ((d + 1 : Nat) : Int), 0), some (tI r, 2), none]) (by simp [c4'])]
          obtain ⟨t, g2, ht, e2, h2, l2⟩ := ev38 (k + 1) h1 (by omega) (ts := [.str [97, 110, 100], .str [111, 114], .str [116, 104, 101, 110], .str [116, 104, 101, 110]]) (by decide) (by decide)
          obtain ⟨fa, g3, e3, o3, d3, s3, h3, l3⟩ := ev40 d (k + 4) n (C + 1 + 1) g2 h2 (by omega) (by omega)
          obtain ⟨fb, g4, e4, o4, d4, s4, h4, l4⟩ := ev40 d (k + 4) n (C + 1 + 1 + cst d) g3 h3 (by omega) (by omega)
          have sub' : (d : Int) + 1 - 1 = (d : Int) := by omega
          have mk : ∃ f : Fm, encF f = .tup [t, encF fa, encF fb] ∧ okF NAB f ∧ dep f ≤ d + 1 ∧ siz f ≤ szB (d + 1) ∧ norm (t, 0) = (t, 2) ∧ t.flat = true := by
            simp only [List.mem_cons, List.not_mem_nil, or_false] at ht
            rcases ht with rfl | rfl | rfl | rfl
            · exact ⟨.and fa fb, rfl, ⟨o3, o4⟩, by simp only [dep]; omega, by simp only [siz, szB]; omega, rfl, rfl⟩
            · exact ⟨.or fa fb, rfl, ⟨o3, o4⟩, by simp only [dep]; omega, by simp only [siz, szB]; omega, rfl, rfl⟩
            · exact ⟨.thn fa fb, rfl, ⟨o3, o4⟩, by simp only [dep]; omega, by simp only [siz, szB]; omega, rfl, rfl⟩
            · exact ⟨.thn fa fb, rfl, ⟨o3, o4⟩, by simp only [dep]; omega, by simp only [siz, szB]; omega, rfl, rfl⟩
          obtain ⟨f, ef, o, df, sf, nt, ft⟩ := mk
          refine ⟨f, g4, ?_, o, df, sf, h4.mono (by simp only [cst]; omega), by omega⟩
          rw [nt] at e2
          rw [ss_nx (g' := g2) (env' := [some (.cell n, 0), some (encL NAB, 0), some (.int ((d + 1 : Nat) : Int), 0), some (tI r, 2), some (t, 2)]) (by simp [e2, nt, norm, ft]),
            ss_rt (g' := g4) (x := (.tup [t, encF fa, encF fb], 2)) (by simp [sub', e3, e4])]
          rw [← ef]
          simp
theorem mem_ords {n : Nat} {t : T} (h : t ∈ (ordsN n).map encP) : ∃ o ∈ ordsN n, t = encP o := by
  obtain ⟨o, ho, rfl⟩ := List.mem_map.mp h
  exact ⟨o, ho, rfl⟩
theorem ev50 (k : Nat) {n : Nat} {C : Int} {g : List T} (h : Gs n C g) (hC : C + 2 < 1000000) : ∃ (u : List (List Nat)) (l : List (List (List Nat))) (g' : List T), eF P W (k + 5) 50 [.cell n] g = .ok (encO u l, 0) g' ∧ WF NmAB u l ∧ u.length ≤ 3 ∧ Gs n (C + 2) g' ∧ g'.length = g.length := by
  obtain ⟨r, g1, e1, hr, h1, l1⟩ := ev35 (k + 2) h (by omega) (b := 3) (by decide) (by decide)
  have e1 : eF P W (k + 4) 35 [.cell n, .int 3] g = .ok (tI r, 2) g1 := e1
  obtain ⟨fl, e2⟩ := ev47 k (r + 1) (by omega) (by omega) g1
  have ol := ords_len (n := r + 1) (by omega) (by omega)
  have on := ords_ne (n := r + 1) (by omega) (by omega)
  obtain ⟨t, g2, ht, e3, h2, l2⟩ := ev38 (k + 1) h1 (by omega) (ts := (ordsN (r + 1)).map encP) (by
    rw [List.length_map]
    exact List.length_pos_iff.mpr on) (by rw [List.length_map]; omega)
  obtain ⟨o, ho, rfl⟩ := mem_ords ht
  obtain ⟨wf, len⟩ := ords_ok (n := r + 1) (by omega) (by omega) ho
  refine ⟨o.1, o.2, g2, ?_, wf, by omega, h2.mono (by omega), by omega⟩
  rw [uf50]
  have e2' : eF P W (k + 4) 47 [.int (1 + (r : Int)), .lst [.str [97], .str [98]]] g1 = .ok (.lst ((ordsN (r + 1)).map encP), fl) g1 := by
    have : (1 : Int) + (r : Int) = ((r + 1 : Nat) : Int) := by omega
    rw [this]
    exact e2
  have ep : encP o = encO o.1 o.2 := rfl
  rw [ep] at e3
  simp [b50, ss_cons, e1, e2', e3]
theorem rng_nat' {F : Call} {env : Env} {g g' : List T} {a : E} {n v : Nat} (h : eE F env a g = .ok (.int (n : Int), v) g') (hn : n ≤ 1000000) : eIt F env (.rng1 a) g = .ok ((List.range n).map tI) g' := by
  rw [i_rng1, h, Out.bind_ok]
  simp only [small_nat hn, Bool.true_and, Int.toNat_natCast]
  rw [if_pos (decide_eq_true (by unfold sizeL; omega)), rangeT_zero]
/-- two lists of worlds: at most so long -/
theorem ev51 (k : Nat) {n : Nat} {C : Int} {g : List T} (h : Gs n C g) (hC : C + 10 < 1000000) : ∃ (u : List (List Nat)) (l : List (List (List Nat))) (g' : List T), eF P W (k + 9) 51 [.cell n] g = .ok (encO u l, 0) g' ∧ WF NmAB u l ∧ u.length ≤ 15 ∧ Gs n (C + 10) g' ∧ g'.length = g.length := by
  obtain ⟨u, l, g1, e1, wf, len, h1, l1⟩ := ev50 (k + 3) h (by omega)
  obtain ⟨r, g2, e2, hr, h2, l2⟩ := ev35 (k + 6) h1 (by omega) (b := 3) (by decide) (by decide)
  have e2 : eF P W (k + 8) 35 [.cell n, .int 3] g1 = .ok (tI r, 2) g2 := e2
  rw [uf51, b51_eq, ss_nx (g' := g1) (env' := [some (.cell n, 0), some (encO u l, 0), none]) (by simp [e1])]
  have it : eIt (eF P W (k + 8)) [some (.cell n), none, none] (.rng1 (.call 35 (.cons (.var 0) (.cons (.lit (.int 3)) .nil)))) g1 = .ok ((List.range r).map tI) g2 := rng_nat' (v := 2) (by simp [e2]) (by omega)
  have loop := forL_map (b := turnF (eF P W (k + 8)) W (.one 2) l51_0) (e := tI) (I := fun don env g' => g'.length = g.length ∧ Gs n (C + 4 + 3 * don.length) g' ∧ don.length ≤ 2 ∧ ∃ u l x, env = [some (.cell n, 0), some (encO u l, 0), x] ∧ WF NmAB u l ∧ u.length + 1 ≤ 4 * 2 ^ don.length)
    (Q := fun o => ∃ u l x g', o = .ok (.nx [some (.cell n, 0), some (encO u l, 0), x]) g' ∧ WF NmAB u l ∧ u.length ≤ 15 ∧ Gs n (C + 10) g' ∧ g'.length = g.length) (List.range r) [] [some (.cell n, 0), some (encO u l, 0), none] g2 ⟨by omega, h2.mono (by simp; omega), by simp, u, l, none, rfl, wf, by simp; omega⟩ (fun pre p post env g' eq hI => ?_) (fun env g' hI => ?_)
  · obtain ⟨u', l', x, g', e3, wf', len', h', hl⟩ := loop
    refine ⟨u', l', g', ?_, wf', len', h', hl⟩
    rw [ss_nx (g' := g') (env' := [some (.cell n, 0), some (encO u' l', 0), x]) (by
      rw [s_for]
      simp [it, e3])]
    simp [ss_cons]
  · obtain ⟨hl, hg, hd, u, l, x, rfl, wf, len⟩ := hI
    rw [List.nil_append] at eq
    have plen : pre.length < r := by
      have := congrArg List.length eq
      simp at this
      omega
    have pw : (2 : Nat) ^ (pre.length + 1) = 2 * 2 ^ pre.length := by rw [Nat.pow_succ, Nat.mul_comm]
    have p4 : (2 : Nat) ^ pre.length ≤ 2 ^ 1 := Nat.pow_le_pow_right (by decide) (by omega)
    obtain ⟨u1, l1, g1, e1, wf1, len1, h1, hl1⟩ := ev50 (k + 3) hg (by omega)
    obtain ⟨t, g2, ht, e2, h2, hl2⟩ := ev38 (k + 5) h1 (by omega) (ts := [encO u l, encO u1 l1]) (by simp) (by simp)
    have nt : ∃ u2 l2, t = encO u2 l2 ∧ WF NmAB u2 l2 ∧ u2.length + 1 ≤ 4 * 2 ^ pre.length := by
      simp only [List.mem_cons, List.not_mem_nil, or_false] at ht
      rcases ht with rfl | rfl
      · exact ⟨u, l, rfl, wf, len⟩
      · have : 0 < 2 ^ pre.length := Nat.pow_pos (by decide)
        exact ⟨u1, l1, rfl, wf1, by omega⟩
    obtain ⟨u2, l2, rfl, wf2, len2⟩ := nt
    have e3 := ev27 k wf wf2 (by omega) g2
    refine ⟨[some (.cell n, 0), some (encO (besUps u u2) (besLets l l2), 0), some (tI p, 2)], g2, .inl ?_, by omega, h2.mono (by simp; omega), by simp; omega, _, _, _, rfl, bes_wf wf wf2 (.inl rfl), ?_⟩
    · simp only [turnF, bindV_one, l51_0, ss_cons]
      rw [norm_encO] at e2
      simp [e1, e2, e3]
    · rw [List.length_append]
      simp only [List.length_singleton, besUps_length]
      rw [pw]
      omega
  · obtain ⟨hl, hg, hd, u, l, x, rfl, wf, len⟩ := hI
    simp at len hg hd
    have p4 : (2 : Nat) ^ r ≤ 2 ^ 2 := Nat.pow_le_pow_right (by decide) hd
    exact ⟨u, l, x, g', rfl, wf, by omega, hg.mono (by omega), hl⟩
end Fx.K53
end

section
set_option Elab.async false
set_option linter.all false
set_option maxRecDepth 100000
set_option maxHeartbeats 4000000
/-! Er53: k53, helpers for the law's two questions. -/
namespace Fx.K53
open PySem PySem.Spec PyProof.Rows L2 Fx Fx.Om
/-! ### few things -/
theorem okLs_map {α : Type} {e : α → T} : ∀ {xs : List α}, (∀ x ∈ xs, okL (e x) = true) → okLs (xs.map e) = true
  | [], _ => rfl
  | x :: xs, h => by
    simp only [List.map_cons, okLs, Bool.and_eq_true]
    exact ⟨h x List.mem_cons_self, okLs_map fun y hy => h y (List.mem_cons_of_mem _ hy)⟩
theorem okL_map {α : Type} {e : α → T} {xs : List α} (hl : xs.length ≤ 1000) (h : ∀ x ∈ xs, okL (e x) = true) : okL (.lst (xs.map e)) = true := by
  simp only [okL, Bool.and_eq_true, decide_eq_true_eq, List.length_map]
  exact ⟨hl, okLs_map h⟩
theorem okL_encI {xs : List Nat} (h : xs.length ≤ 1000) : okL (encI xs) = true := okL_map h fun _ _ => rfl
theorem okL_encL {xs : List (List Nat)} (h : xs.length ≤ 1000) : okL (encL xs) = true := okL_map h fun _ _ => rfl
theorem okL_encB {xs : List Bool} (h : xs.length ≤ 1000) : okL (encB xs) = true := okL_map h fun _ _ => rfl
theorem okL_encU {xs : List (List Nat)} (h : xs.length ≤ 1000) (h' : ∀ u ∈ xs, u.length ≤ 1000) : okL (encU xs) = true := okL_map h fun u hu => okL_encI (h' u hu)
theorem okL_encM {xs : List (List (List Nat))} (h : xs.length ≤ 1000) (h' : ∀ u ∈ xs, u.length ≤ 1000) : okL (encM xs) = true := okL_map h fun u hu => okL_encL (h' u hu)
theorem ab_len {l : List (List Nat)} (h : NmAB l) : l.length ≤ 1000 := by
  rcases h with rfl | rfl | rfl | rfl <;> simp
section
variable {ups : List (List Nat)} {lets : List (List (List Nat))}
theorem okL_encO (h : WF NmAB ups lets) (hl : ups.length ≤ 60) : okL (encO ups lets) = true := by
  have p := WF.pt h hl
  simp only [encO, okL, okLs, Bool.and_eq_true, decide_eq_true_eq]
  refine ⟨by simp, okL_encU (by omega) fun u hu => Nat.le_trans (p.u60 u hu) (by decide), okL_encM (by rw [p.ll]; omega) fun l hl => ab_len (p.nm l hl), trivial⟩
theorem part_len (k : Nat) : (partOf' ups lets k).length ≤ ups.length := by
  refine Nat.le_trans (List.length_filter_le _ _) ?_
  simp
theorem okL_parts (p : Pt ups lets) : okL (encU (partsL ups lets)) = true := okL_encU (by
    simp only [partsL, List.length_map, List.length_range]
    exact Nat.le_trans (many_le' p) (by decide)) fun u hu => by
  obtain ⟨k, _, rfl⟩ := parts_mem hu
  exact Nat.le_trans (part_len k) (Nat.le_trans p.n60 (by decide))
/-! ### repr of an order -/
theorem sms_map {α : Type} {e : α → T} : ∀ {xs : List α}, (∀ x ∈ xs, sm (e x) = true) → sms (xs.map e) = true
  | [], _ => rfl
  | x :: xs, h => by
    simp only [List.map_cons, sms, Bool.and_eq_true]
    exact ⟨h x List.mem_cons_self, sms_map fun y hy => h y (List.mem_cons_of_mem _ hy)⟩
theorem wts_map {α : Type} {e : α → T} {c : Nat} : ∀ {xs : List α}, (∀ x ∈ xs, wt (e x) ≤ c) → wts (xs.map e) ≤ xs.length * (c + 2)
  | [], _ => by simp [wts]
  | x :: xs, h => by
    have h1 := h x List.mem_cons_self
    have h2 := wts_map (xs := xs) fun y hy => h y (List.mem_cons_of_mem _ hy)
    simp only [List.map_cons, wts, List.length_cons, Nat.succ_mul]
    omega
theorem repr_encO (h : WF NmAB ups lets) (hl : ups.length ≤ 60) {f : Nat} : biV .repr [(encO ups lets, f)] = some (.str (rp (encO ups lets)), 2) := by
  have p := WF.pt h hl
  have s1 : sm (encU ups) = true := by
    simp only [encU, sm]
    exact sms_map fun u hu => sm_encI fun x hx => by have := p.lt u hu x hx; have := p.n60; omega
  have s2 : sm (encM lets) = true := by
    simp only [encM, sm]
    exact sms_map fun l hl => sm_names (low_ab (p.nm l hl))
  have w1 : wt (encU ups) ≤ 20000 := by
    simp only [encU, wt]
    have := wts_map (e := encI) (xs := ups) (c := 243) fun u hu => by rw [wt_encI]; have := p.u60 u hu; omega
    have := p.n60
    omega
  have w2 : wt (encM lets) ≤ 20000 := by
    simp only [encM, wt]
    have := wts_map (e := encL) (xs := lets) (c := 20) fun l hl => wt_ab (p.nm l hl)
    have := p.n60
    have := p.ll
    omega
  show (if (encO ups lets).plain && decide ((encO ups lets).deep ≤ 64) then (reprV (encO ups lets)).map fun s => (T.str s, 2) else none) = _
  rw [if_pos, reprV_sm]
  · rfl
  · simp [encO, sm, sms, s1, s2]
  · simp only [encO, wt, wts]
    unfold sizeL
    omega
  · rw [pl_encO, Bool.true_and]
    exact decide_eq_true (Nat.le_trans (deep_encO ups lets) (by decide))

/-! ### truths -/
theorem eqv_encB (x y : List Bool) : (encB x).eqv (encB y) = decide (x = y) := by
  simp only [encB, eqv_lst]
  exact eqvs_map_eq (fun a b => by cases a <;> cases b <;> rfl) x y
theorem ne_encB {x y : List Bool} : cmpV .NotEq (encB x) (encB y) = some (!decide (x = y)) := by
  rw [cmp_ne (plain_encB x) (plain_encB y) (Nat.le_trans (deep_encB x) (by decide)), eqv_encB]
theorem blsOf_bl : ∀ bs : List Bool, blsOf (bs.map T.bl) = some bs
  | [] => rfl
  | b :: bs => by simp [blsOf, blsOf_bl bs]
theorem lenSet_const {bs : List Bool} {f : Nat} (hl : bs.length ≤ 4000) (h : ∀ a ∈ bs, ∀ b ∈ bs, a = b) : ∃ m : Nat, m ≤ 1 ∧ biV .lenSet [(encB bs, f)] = some (.int (m : Int), 2) := by
  cases bs with
  | nil => exact ⟨0, by decide, rfl⟩
  | cons b r =>
    refine ⟨(once (b :: r)).length, ?_, ?_⟩
    · have : once (b :: r) = [b] := by
        simp only [once]
        congr 1
        rw [List.filter_eq_nil_iff]
        intro a ha
        have ha' := Om.mem_once.mp ha
        have := h a (List.mem_cons_of_mem _ ha') b List.mem_cons_self
        simp [this]
      rw [this]
      simp
    · show (blsOf ((b :: r).map T.bl)).bind _ = _
      rw [blsOf_bl, Option.bind_some, if_pos hl]
/-- [world for world, does in enumerate(told) if does] -/
theorem worlds_comp (h : lets.length = ups.length) {F : Call} {env : Env} {g : List T} {a b : Nat} {em : E} {v : Nat} {f : Fm} (he : eE F env em g = .ok (encB (tv ups lets f), v) g)
    (ha : ∀ t u : T, ((((env.set b none).set a none).set a (some t)).set b (some u))[a]? = some (some t)) (hb : ∀ t u : T, ((((env.set b none).set a none).set a (some t)).set b (some u))[b]? = some (some u)) :
    eE F env (.comp (.var a) [a, b] (.many [a, b]) (.enum em) (.var b)) g = .ok (encI ((List.range ups.length).filter fun w => tvAt ups lets f w), 2) g := by
  refine (e_comp (e := fun p : Nat × Bool => T.tup [.int (p.1 : Int), .bl p.2]) (xs := (List.range (tv ups lets f).length).zip (tv ups lets f)) (p := fun p => p.2) (r := fun p => (tI p.1, 0)) (enum_encB he) fun p hp => ?_).trans ?_
  · obtain ⟨i, c⟩ := p
    simp only [wipe_two, bind_two, x_var, List.getD_eq_getElem?_getD, ha, hb, Option.getD_some, Option.map_some, Out.of_some, Out.bind_ok, truth_bl]
    cases c <;> simp
  · rw [allFl_map fun _ _ => .inr rfl]
    have e : ((List.range (tv ups lets f).length).zip (tv ups lets f)).filter (fun p => p.2) = ((List.range ups.length).filter fun w => tvAt ups lets f w).map fun w => (w, true) := by
      have e1 : (List.range (tv ups lets f).length).zip (tv ups lets f) = (List.range ups.length).map fun w => (w, tvAt ups lets f w) := by
        apply List.ext_getElem
        · simp [tv_length h]
        · intro i a b
          have hi : i < ups.length := by simpa using b
          have t := tv_get h f hi
          have hi2 : i < (tv ups lets f).length := by rw [tv_length h]; exact hi
          rw [List.getElem?_eq_getElem hi2] at t
          simp only [List.getElem_zip, List.getElem_range, List.getElem_map, Prod.mk.injEq, true_and]
          exact Option.some.inj t
      rw [e1, List.filter_map]
      apply List.map_congr_left
      intro w hw
      have := (List.mem_filter.mp hw).2
      simp only [Function.comp] at this
      rw [this]
    rw [e, List.map_map]
    rfl
theorem part_tv (h : WF NmAB ups lets) (f : Fm) {k : Nat} : ∀ x ∈ partOf' ups lets k, ∀ y ∈ partOf' ups lets k, tvAt ups lets f x = tvAt ups lets f y := fun x hx y hy => by
  obtain ⟨x1, x2⟩ := List.mem_filter.mp hx
  obtain ⟨y1, y2⟩ := List.mem_filter.mp hy
  refine tv_part h f (List.mem_range.mp x1) (List.mem_range.mp y1) ?_
  have x2 : nth (marks ups lets) x = k := by simpa using x2
  have y2 : nth (marks ups lets) y = k := by simpa using y2
  rw [x2, y2]
theorem short_root (h : WF NmAB ups lets) (f : Fm) : tvAt (shortUps ups lets) (shortLets ups lets) f 0 = tvAt ups lets f 0 :=
  (tv_bis h.ll (by simp) (bis_short h) f (i := 0) (j := 0) ⟨h.pos, marks_zero.symm⟩).symm
end
end Fx.K53
end

section
set_option Elab.async false
set_option linter.all false
set_option maxRecDepth 100000
set_option maxHeartbeats 4000000
/-! Es53: k53, the law's first question. -/
namespace Fx.K53
open PySem PySem.Spec PyProof.Rows L2 Fx Fx.Om
section
variable {ups : List (List Nat)} {lets : List (List (List Nat))}
/-- one formula -/
theorem formula_turn (k : Nat) (h : WF NmAB ups lets) (hl : ups.length ≤ 15) {n : Nat} {C : Int} {g : List T} (hg : Gs n C g) (hC : C + 30 < 1000000) (f1 f3 f5 f7 : Nat) (m ke : T) (x9 x10 : Option (T × Nat)) (q : Nat) :
    ∃ (g' : List T) (x9' x10' : Option (T × Nat)), Gs n (C + 30) g' ∧ g'.length = g.length ∧
      eSs (eF P W (k + 8)) W l52_0 [some (.cell n, 0), some (encO ups lets, f1), some (m, 2), some (encU (partsL ups lets), f3), some (encO (shortUps ups lets) (shortLets ups lets), 2), some (encO (shortUps ups lets) (shortLets ups lets), f5), some (tI q, 2), some (encI (marks ups lets), f7), some (ke, 2), x9, x10, none, none, none, none, none, none] g =
        .ok (.nx [some (.cell n, 0), some (encO ups lets, f1), some (m, 2), some (encU (partsL ups lets), f3), some (encO (shortUps ups lets) (shortLets ups lets), 2), some (encO (shortUps ups lets) (shortLets ups lets), f5), some (tI q, 2), some (encI (marks ups lets), f7), some (ke, 2), x9', x10', none, none, none, none, none, none]) g' := by
  obtain ⟨f, g', e40, ok, dp, sz, hg', gl⟩ := ev40 3 (k + 8) n C g hg (by simp only [cst]; omega) (by omega)
  have hg'' : Gs n (C + 30) g' := hg'.mono (by simp only [cst]; omega)
  refine ⟨g', some (encF f, 2), some (encB (tv ups lets f), 2), hg'', gl, ?_⟩
  have p := WF.pt h (by omega)
  have hs := short_wf h
  have ml : many ups lets ≤ 15 := Nat.le_trans (many_le h.ll) hl
  have sl : (shortUps ups lets).length ≤ 60 := by rw [shortUps_length]; omega
  have sz40 : siz f ≤ 40 := by simp only [szB] at sz; omega
  have e41 := ev41 h.ll h.lt (by omega) g' f (k + 8) (by omega)
  have e41s := ev41 hs.ll hs.lt (by omega) g' f (k + 8) (by omega)
  have e40' : eF P W (k + 8) 40 [.cell n, .lst [.str [97], .str [98]], .int 3] g = .ok (encF f, 2) g' := e40
  let env : Env := [none, none, none, some (encU (partsL ups lets)), some (encO (shortUps ups lets) (shortLets ups lets)), none, none, none, none, some (encF f), some (encB (tv ups lets f)), none, none, none, none, none, none]
  have a2 : eE (eF P W (k + 8)) env (.comp (.idx (.var 10) (.idx (.var 12) (.lit (.int 0)))) [12] (.one 12) (.seq (.var 3)) (.lit (.bl true))) g' = .ok (encB (tv (shortUps ups lets) (shortLets ups lets) f), 2) g' := by
    refine (e_comp2 (e := fun i => encI (partOf' ups lets i)) (xs := List.range (many ups lets)) (r := fun i => .bl (tvAt ups lets f (rep ups lets i))) (n := fun _ => 0) (by simp [partsL, env]) fun i hi => ⟨.inr rfl, ?_⟩).trans ?_
    · have hi := List.mem_range.mp hi
      have ph := part_head h.ll hi
      have t := tv_get h.ll f (rep_lt h.ll hi)
      generalize tvAt ups lets f (rep ups lets i) = v at t ⊢
      simp [env, idx0_encI, ph, t]
    · rw [tv_short h f, lst_bl]
  have a3 : eE (eF P W (k + 8)) env (.comp (.var 12) [12] (.one 12) (.seq (.var 3)) (.cmp .Gt (.bi .lenSet (.cons (.comp (.idx (.var 10) (.var 13)) [13] (.one 13) (.seq (.var 12)) (.lit (.bl true))) .nil)) (.lit (.int 1)))) g' = .ok (.lst [], 2) g' := by
    refine e_comp0 (ts := (partsL ups lets).map encI) (by simp [env]) fun t ht => ?_
    obtain ⟨w, hw, rfl⟩ := List.mem_map.mp ht
    obtain ⟨i, hi, rfl⟩ := parts_mem hw
    have inner : eE (eF P W (k + 8)) [none, none, none, some (encU (partsL ups lets)), some (encO (shortUps ups lets) (shortLets ups lets)), none, none, none, none, some (encF f), some (encB (tv ups lets f)), none, some (encI (partOf' ups lets i)), none, none, none, none] (.comp (.idx (.var 10) (.var 13)) [13] (.one 13) (.seq (.var 12)) (.lit (.bl true))) g' = .ok (encB ((partOf' ups lets i).map (tvAt ups lets f)), 2) g' := by
      refine (e_comp2 (e := tI) (xs := partOf' ups lets i) (r := fun x => .bl (tvAt ups lets f x)) (n := fun _ => 0) (by simp) fun x hx => ⟨.inr rfl, ?_⟩).trans ?_
      · have hx := List.mem_range.mp (List.mem_filter.mp hx).1
        have t := tv_get h.ll f hx
        generalize tvAt ups lets f x = v at t ⊢
        simp [t]
      · rw [lst_bl]
    obtain ⟨c, c1, ec⟩ := lenSet_const (bs := (partOf' ups lets i).map (tvAt ups lets f)) (f := 2) (by
      rw [List.length_map]
      have := part_len (ups := ups) (lets := lets) i
      omega) (fun a ha b hb => by
      obtain ⟨x, hx, rfl⟩ := List.mem_map.mp ha
      obtain ⟨y, hy, rfl⟩ := List.mem_map.mp hb
      exact part_tv h f x hx y hy)
    have c2 : ¬ ((1 : Int) < (c : Int)) := by omega
    generalize (partOf' ups lets i).map (tvAt ups lets f) = bs at inner ec
    simp only [env, wipe_one, bind_one, List.set_cons_succ, List.set_cons_zero, x_cmp, x_bi, xs_cons, xs_nil, inner, Out.bind_ok, ec, Out.of_some, x_lit, cmp_gt_int, c2, decide_false, Option.map_some, truth_bl]
  let env2 : Env := [none, some (encO ups lets), none, none, some (encO (shortUps ups lets) (shortLets ups lets)), none, none, none, none, some (encF f), some (encB (tv ups lets f)), none, none, none, none, none, none]
  have b1 : eE (eF P W (k + 8)) env2 (.comp (.var 13) [13, 16] (.many [13, 16]) (.enum (.var 10)) (.var 16)) g' = .ok (encI ((List.range ups.length).filter fun w => tvAt ups lets f w), 2) g' :=
    worlds_comp h.ll (v := 0) (by simp [env2]) (by simp [env2]) (by simp [env2])
  have e21 := ev21 k hs sl ok (by omega) sz40 (w := 0) hs.pos g'
  have e21 : eF P W (k + 8) 21 [encO (shortUps ups lets) (shortLets ups lets), encF f, .int 0] g' = .ok (.bl (tvAt (shortUps ups lets) (shortLets ups lets) f 0), 2) g' := e21
  have e24 := ev24 (k + 1) hs sl ok (by omega) sz40 g'
  have e22 := ev22 k h (by omega) ok (by omega) sz40 g'
  rw [short_root h f] at e21 e24
  have t0 := tv_get h.ll f h.pos
  have fl : ((List.range ups.length).filter fun w => tvAt ups lets f w).length ≤ 1000 := by
    refine Nat.le_trans (List.length_filter_le _ _) ?_
    simp
    omega
  have okw := okL_encI fl
  have dw := deep_encI ((List.range ups.length).filter fun w => tvAt ups lets f w)
  have i0 : ∀ f2, idxV g' (encB (tv ups lets f)) (.int 0) f2 = some (.bl (tvAt ups lets f 0), if f2 = 2 then 2 else 0) := fun f2 => by
    rw [idx0_encB, t0]
    rfl
  generalize tvAt ups lets f 0 = v at e21 e24 i0
  generalize encI ((List.range ups.length).filter fun w => tvAt ups lets f w) = ws at b1 e22 okw dw
  have e39 := ev39 2 (.lst [.bl v, .bl (!v), ws]) (k + 8) g' (by simp [okL, okLs, okw]) (by
    simp only [T.deep, T.deeps]
    omega) (by omega)
  rw [l52_0, ss_nx (g' := g') (env' := [some (.cell n, 0), some (encO ups lets, f1), some (m, 2), some (encU (partsL ups lets), f3), some (encO (shortUps ups lets) (shortLets ups lets), 2), some (encO (shortUps ups lets) (shortLets ups lets), f5), some (tI q, 2), some (encI (marks ups lets), f7), some (ke, 2), some (encF f, 2), x10, none, none, none, none, none, none]) (by simp [e40']),
    ss_nx (g' := g') (env' := [some (.cell n, 0), some (encO ups lets, f1), some (m, 2), some (encU (partsL ups lets), f3), some (encO (shortUps ups lets) (shortLets ups lets), 2), some (encO (shortUps ups lets) (shortLets ups lets), f5), some (tI q, 2), some (encI (marks ups lets), f7), some (ke, 2), some (encF f, 2), some (encB (tv ups lets f), 2), none, none, none, none, none, none]) (by simp [e41]),
    ss_nx (g' := g') (env' := [some (.cell n, 0), some (encO ups lets, f1), some (m, 2), some (encU (partsL ups lets), f3), some (encO (shortUps ups lets) (shortLets ups lets), 2), some (encO (shortUps ups lets) (shortLets ups lets), f5), some (tI q, 2), some (encI (marks ups lets), f7), some (ke, 2), some (encF f, 2), some (encB (tv ups lets f), 2), none, none, none, none, none, none]) (by
      simp only [env] at a2 a3
      simp [e41s, a2, a3, ne_encB]),
    ss_nx (g' := g') (env' := [some (.cell n, 0), some (encO ups lets, f1), some (m, 2), some (encU (partsL ups lets), f3), some (encO (shortUps ups lets) (shortLets ups lets), 2), some (encO (shortUps ups lets) (shortLets ups lets), f5), some (tI q, 2), some (encI (marks ups lets), f7), some (ke, 2), some (encF f, 2), some (encB (tv ups lets f), 2), none, none, none, none, none, none]) (by
      simp only [env2] at b1
      simp [e21, e24, e22, i0, b1, e39])]
  exact ss_nil
end
end Fx.K53
end

section
set_option Elab.async false
set_option linter.all false
set_option maxRecDepth 100000
set_option maxHeartbeats 4000000
/-! Et53: k53, the law's first question, whole. -/
namespace Fx.K53
open PySem PySem.Spec PyProof.Rows L2 Fx Fx.Om
section
variable {ups : List (List Nat)} {lets : List (List (List Nat))}
/-- where the law's first question stands -/
def E52 (n : Nat) (ups : List (List Nat)) (lets : List (List (List Nat))) (f1 f3 f5 f7 : Nat) (x6 x9 x10 : Option (T × Nat)) : VEnv :=
  [some (.cell n, 0), some (encO ups lets, f1), some (.int (many ups lets : Int), 2), some (encU (partsL ups lets), f3), some (encO (shortUps ups lets) (shortLets ups lets), 2), some (encO (shortUps ups lets) (shortLets ups lets), f5), x6, some (encI (marks ups lets), f7), some (.str (rp (encO ups lets)), 2), x9, x10, none, none, none, none, none, none]
theorem due_set (k : Nat) (h : WF NmAB ups lets) (hl : ups.length ≤ 15) (n : Nat) (g : List T) : ∃ f1 f3 f5 f7,
    eS (eF P W (k + 8)) W (.set 5 [1, 3, 7, 12, 15] (.tup (.cons (.comp (.bi .sortSet (.cons (.comp (.idx (.var 7) (.var 15)) [15] (.one 15) (.seq (.idx (.idx (.var 1) (.lit (.int 0))) (.idx (.var 12) (.lit (.int 0))))) (.lit (.bl true))) .nil)) [12] (.one 12) (.seq (.var 3)) (.lit (.bl true))) (.cons (.comp (.idx (.idx (.var 1) (.lit (.int 1))) (.idx (.var 12) (.lit (.int 0)))) [12] (.one 12) (.seq (.var 3)) (.lit (.bl true))) .nil)))) [some (.cell n, 0), some (encO ups lets, 0), some (.int (many ups lets : Int), 2), some (encU (partsL ups lets), 2), some (encO (shortUps ups lets) (shortLets ups lets), 2), none, none, some (encI (marks ups lets), 0), some (.str (rp (encO ups lets)), 2), none, none, none, none, none, none, none, none] g = .ok (.nx (E52 n ups lets f1 f3 f5 f7 none none none)) g := by
  have p := WF.pt h (by omega)
  have c1 : eE (eF P W (k + 8)) [none, some (encO ups lets), none, some (encU (partsL ups lets)), none, none, none, some (encI (marks ups lets)), none, none, none, none, none, none, none, none, none] (.comp (.bi .sortSet (.cons (.comp (.idx (.var 7) (.var 15)) [15] (.one 15) (.seq (.idx (.idx (.var 1) (.lit (.int 0))) (.idx (.var 12) (.lit (.int 0))))) (.lit (.bl true))) .nil)) [12] (.one 12) (.seq (.var 3)) (.lit (.bl true))) g = .ok (encU (shortUps ups lets), 2) g := by
    refine (e_comp2 (e := fun i => encI (partOf' ups lets i)) (xs := List.range (many ups lets)) (r := fun i => encI (sset ((upAt ups (rep ups lets i)).map (nth (marks ups lets))))) (n := fun _ => 2) (by simp [partsL]) fun i hi => ⟨.inl rfl, ?_⟩).trans ?_
    · have hi := List.mem_range.mp hi
      have ph := part_head h.ll hi
      have rl := rep_lt h.ll hi
      obtain ⟨u, gu, eu⟩ := up_get rl
      have um : u ∈ ups := List.mem_of_getElem? gu
      rw [eu]
      have hs := see_comp (F := eF P W (k + 8)) (env := [none, some (encO ups lets), none, some (encU (partsL ups lets)), none, none, none, some (encI (marks ups lets)), none, none, none, none, some (encI (partOf' ups lets i)), none, none, none, none]) (m := marks ups lets) (u := u) (g := g) (im := 7) (io := 15) (e := .idx (.idx (.var 1) (.lit (.int 0))) (.idx (.var 12) (.lit (.int 0)))) (v := 0) (by simp [idx0_encI, ph, gu]) (by simp) (by simp) (fun x hx => by rw [marks_length h.ll]; exact h.lt u um x hx)
      have hss := sortSet_encI (xs := u.map (nth (marks ups lets))) (f := 2) (once_see p um _) (by rw [List.length_map]; have := p.u60 u um; omega)
      simp [hs, hss]
    · rw [← mk_encU, shortUps, List.map_map]
      rfl
  have c2 : ∃ fl, eE (eF P W (k + 8)) [none, some (encO ups lets), none, some (encU (partsL ups lets)), none, none, none, some (encI (marks ups lets)), none, none, none, none, none, none, none, none, none] (.comp (.idx (.idx (.var 1) (.lit (.int 1))) (.idx (.var 12) (.lit (.int 0)))) [12] (.one 12) (.seq (.var 3)) (.lit (.bl true))) g = .ok (encM (shortLets ups lets), fl) g := by
    obtain ⟨fl, e⟩ := e_comp1 (F := eF P W (k + 8)) (env := [none, some (encO ups lets), none, some (encU (partsL ups lets)), none, none, none, some (encI (marks ups lets)), none, none, none, none, none, none, none, none, none]) (elt := .idx (.idx (.var 1) (.lit (.int 1))) (.idx (.var 12) (.lit (.int 0)))) (own := [12]) (tg := .one 12) (it := .seq (.var 3)) (g := g) (e := fun i => encI (partOf' ups lets i)) (xs := List.range (many ups lets)) (r := fun i => encL (letAt lets (rep ups lets i))) (n := fun _ => 0) (by simp [partsL]) (fun i hi => by
      have hi := List.mem_range.mp hi
      have ph := part_head h.ll hi
      have rl := rep_lt h.ll hi
      obtain ⟨u, gu, eu⟩ := let_get (l := lets) (x := rep ups lets i) (by rw [h.ll]; exact rl)
      rw [eu]
      simp [idx0_encI, ph, gu])
    refine ⟨fl, ?_⟩
    rw [e, ← mk_encM, shortLets, List.map_map]
    rfl
  obtain ⟨fl, c2⟩ := c2
  have eo : T.tup [encU (shortUps ups lets), encM (shortLets ups lets)] = encO (shortUps ups lets) (shortLets ups lets) := rfl
  by_cases z : fl = 2
  · subst z
    exact ⟨0, 2, 2, 0, by simp [c1, c2, eo, E52]⟩
  · have zf : isFlat2 (encM (shortLets ups lets), fl) = false := by
      simp [isFlat2, z]
    exact ⟨0, 0, 0, 0, by simp [c1, c2, eo, E52, zf]⟩
theorem ev52 (k : Nat) (h : WF NmAB ups lets) (hl : ups.length ≤ 15) {n : Nat} {C : Int} {g : List T} (hg : Gs n C g) (hC : C + 300 < 1000000) :
    ∃ g', eF P W (k + 9) 52 [.cell n, encO ups lets] g = .ok (.bl true, 2) g' ∧ Gs n (C + 240) g' ∧ g'.length = g.length := by
  have p := WF.pt h (by omega)
  have hs := short_wf h
  have ml : many ups lets ≤ 15 := Nat.le_trans (many_le h.ll) hl
  have mp := many_pos h.ll h.pos
  have sl : (shortUps ups lets).length ≤ 60 := by rw [shortUps_length]; omega
  have e49 := ev49 (k + 6) p h.pos g
  have erp : ∀ f, biV .repr [(encO ups lets, f)] = some (.str (rp (encO ups lets)), 2) := fun f => repr_encO h (by omega)
  have eln := lenSet_encI (xs := marks ups lets) (f := 0) (by rw [marks_length h.ll]; omega)
  have elm : biV .lenSet [(encI (marks ups lets), 0)] = some (.int (many ups lets : Int), 2) := eln
  have c3 : eE (eF P W (k + 8)) [none, none, some (.int (many ups lets : Int)), none, none, none, none, some (encI (marks ups lets)), none, none, none, none, none, none, none, none, none] (.comp (.comp (.var 13) [13, 14] (.many [13, 14]) (.enum (.var 7)) (.cmp .Eq (.var 14) (.var 11))) [11] (.one 11) (.rng1 (.var 2)) (.lit (.bl true))) g = .ok (encU (partsL ups lets), 2) g := by
    refine (e_comp2 (e := tI) (xs := List.range (many ups lets)) (r := fun i => encI (partOf' ups lets i)) (n := fun _ => 2) (rng_nat (n := many ups lets) (v := 0) (by simp) (by omega)) fun q hq => ⟨.inl rfl, ?_⟩).trans ?_
    · have := part_comp (F := eF P W (k + 8)) (env := [none, none, some (.int (many ups lets : Int)), none, none, none, none, some (encI (marks ups lets)), none, none, none, some (tI q), none, none, none, none, none]) (g := g) (a := 13) (b := 14) (c := 11) (em := .var 7) (v := 0) p (k := q) (by simp) (by simp) (by simp) (by simp)
      simp [this]
    · rw [← mk_encU, partsL, List.map_map]
      rfl
  obtain ⟨f1, f3, f5, f7, s5⟩ := due_set k h hl n g
  have e31 := fun g => ev31 k h (by omega) g
  have e32 := fun g => ev32 k h (by omega) g
  have okP := okL_parts p
  have okS := okL_encO hs sl
  have dP := deep_encU (partsL ups lets)
  have dS := deep_encO (shortUps ups lets) (shortLets ups lets)
  have e39a := ev39 4 (.lst [encU (partsL ups lets), encU (partsL ups lets), encO (shortUps ups lets) (shortLets ups lets), encO (shortUps ups lets) (shortLets ups lets)]) (k + 8) g (by simp [okL, okLs, okP, okS]) (by
    simp only [T.deep, T.deeps]
    omega) (by omega)
  have e39b := ev39 4 (encO (shortUps ups lets) (shortLets ups lets)) (k + 8) g okS (by omega) (by omega)
  have e45 := ev45 (k + 5) (WF.pw hs sl) g
  rw [WF.ordB hs] at e45
  have e17 := ev17 (k + 1) hs sl g
  have e32s := ev32 k hs sl g
  rw [short_short_ups h, short_short_lets h] at e32s
  have e33 := ev33 k h hs (by rw [shortUps_length]; omega) g
  rw [alike_short h, beq_self_eq_true] at e33
  have loop := forL_map (b := turnF (eF P W (k + 8)) W (.one 6) l52_0) (e := tI) (I := fun don env g' => g'.length = g.length ∧ Gs n (C + 30 * don.length) g' ∧ don.length ≤ 8 ∧ ∃ x6 x9 x10, env = E52 n ups lets f1 f3 f5 f7 x6 x9 x10)
    (Q := fun o => ∃ x6 x9 x10 g', o = .ok (.nx (E52 n ups lets f1 f3 f5 f7 x6 x9 x10)) g' ∧ Gs n (C + 240) g' ∧ g'.length = g.length) (List.range 8) [] (E52 n ups lets f1 f3 f5 f7 none none none) g ⟨rfl, hg.mono (by simp), by simp, none, none, none, rfl⟩ (fun pre q post env g' eq hI => ?_) (fun env g' hI => ?_)
  · obtain ⟨x6, x9, x10, g', el, hg', gl⟩ := loop
    refine ⟨g', ?_, hg', gl⟩
    have e39c := ev39 4 (.lst [encU (partsL ups lets), encO (shortUps ups lets) (shortLets ups lets)]) (k + 8) g' (by simp [okL, okLs, okP, okS]) (by
      simp only [T.deep, T.deeps]
      omega) (by omega)
    have i0 : idxV g' (encU (partsL ups lets)) (.int 0) 2 = some (encI (partOf' ups lets 0), 2) := by
      rw [idx0_encU]
      simp [partsL, mp]
    have il : isLstT (encI (partOf' ups lets 0)) = true := by
      have := part_len (ups := ups) (lets := lets) 0
      show decide (((partOf' ups lets 0).map tI).length < 1000000) = true
      rw [List.length_map]
      exact decide_eq_true (by omega)
    obtain ⟨u0, gu0, eu0⟩ := up_get (ups := shortUps ups lets) (x := 0) hs.pos
    have wk : walkT (encO (shortUps ups lets) (shortLets ups lets)) [0, 0] = some (encI u0) := by
      show (((shortUps ups lets).map encI)[0]?.bind fun u => walkT u []) = _
      rw [List.getElem?_map, gu0]
      rfl
    have il0 : isLstT (encI u0) = true := by
      have hu := (WF.pt hs sl).u60 u0 (List.mem_of_getElem? gu0)
      show decide ((u0.map tI).length < 1000000) = true
      rw [List.length_map]
      exact decide_eq_true (by omega)
    have e8 : eIt (eF P W (k + 8)) [none, none, none, none, none, none, none, none, none, none, none, none, none, none, none, none, none] (.rng1 (.lit (.int 8))) g = .ok ((List.range 8).map tI) g := rng_nat (n := 8) (v := 2) (by simp) (by decide)
    rw [uf52, b52_eq,
      ss_nx (g' := g) (env' := [some (.cell n, 0), some (encO ups lets, 0), none, none, none, none, none, some (encI (marks ups lets), 0), some (.str (rp (encO ups lets)), 2), none, none, none, none, none, none, none, none]) (by simp [e49, erp, norm]),
      ss_nx (g' := g) (env' := [some (.cell n, 0), some (encO ups lets, 0), some (.int (many ups lets : Int), 2), none, none, none, none, some (encI (marks ups lets), 0), some (.str (rp (encO ups lets)), 2), none, none, none, none, none, none, none, none]) (by simp [elm]),
      ss_nx (g' := g) (env' := [some (.cell n, 0), some (encO ups lets, 0), some (.int (many ups lets : Int), 2), some (encU (partsL ups lets), 2), none, none, none, some (encI (marks ups lets), 0), some (.str (rp (encO ups lets)), 2), none, none, none, none, none, none, none, none]) (by simp [c3]),
      ss_nx (g' := g) (env' := [some (.cell n, 0), some (encO ups lets, 0), some (.int (many ups lets : Int), 2), some (encU (partsL ups lets), 2), some (encO (shortUps ups lets) (shortLets ups lets), 2), none, none, some (encI (marks ups lets), 0), some (.str (rp (encO ups lets)), 2), none, none, none, none, none, none, none, none]) (by simp [e32]),
      ss_nx (env' := _) (g' := g) s5,
      ss_nx (g' := g) (env' := E52 n ups lets f1 f3 f5 f7 none none none) (by simp [E52, e31, e32, e39a]),
      ss_nx (g' := g) (env' := E52 n ups lets f1 f3 f5 f7 none none none) (by simp [E52, e45, e17, e32s, e39b, e33]),
      ss_nx (g' := g') (env' := E52 n ups lets f1 f3 f5 f7 x6 x9 x10) (by
        rw [s_for]
        simp only [E52] at el ⊢
        simp [e8]
        exact el),
      ss_nx (g' := g') (env' := E52 n ups lets f1 f3 f5 f7 x6 x9 x10) (by simp [E52, e31, i0, il]),
      ss_nx (g' := g') (env' := [some (.cell n, 0), some (encO ups lets, f1), some (.int (many ups lets : Int), 2), some (encU (partsL ups lets), f3), none, some (encO (shortUps ups lets) (shortLets ups lets), f5), x6, some (encI (marks ups lets), f7), some (.str (rp (encO ups lets)), 2), x9, x10, none, none, none, none, none, none]) (by simp [E52, wk, il0])]
    simp [ss_cons, e31, e32, e39c, erp]
  · obtain ⟨gl, hg', hd, x6, x9, x10, rfl⟩ := hI
    rw [List.nil_append] at eq
    have plen : pre.length < 8 := by
      have := congrArg List.length eq
      simp at this
      omega
    obtain ⟨g2, x9', x10', h2, l2, e2⟩ := formula_turn k h hl hg' (by omega) f1 f3 f5 f7 (.int (many ups lets : Int)) (.str (rp (encO ups lets))) x9 x10 q
    refine ⟨_, g2, .inl ?_, by omega, h2.mono (by simp; omega), by simp; omega, some (tI q, 2), x9', x10', rfl⟩
    simp only [turnF, bindV_one]
    exact e2
  · obtain ⟨gl, hg', hd, x6, x9, x10, rfl⟩ := hI
    exact ⟨x6, x9, x10, g', rfl, hg'.mono (by simp), gl⟩
end
end Fx.K53
end

section
set_option Elab.async false
set_option linter.all false
set_option maxRecDepth 100000
set_option maxHeartbeats 4000000
/-! Eu53: k53, the law's second question; the law. -/
namespace Fx.K53
open PySem PySem.Spec PyProof.Rows L2 Fx Fx.Om
section
variable {Nm : List (List Nat) → Prop} {u1 u2 : List (List Nat)} {l1 l2 : List (List (List Nat))}
theorem Bis.symm {R : Nat → Nat → Prop} (B : Bis u1 l1 u2 l2 R) : Bis u2 l2 u1 l1 fun j i => R i j where
  lt := fun r => ⟨(B.lt r).2, (B.lt r).1⟩
  lets := fun r => (B.lets r).symm
  fw := fun r v hv => B.bw r v hv
  bw := fun r v hv => B.fw r v hv
theorem cross_bis (h1 : WF Nm u1 l1) (h2 : WF Nm u2 l2) (n0 : Nm []) : Bis u1 l1 u2 l2 fun i j => i < u1.length ∧ j < u2.length ∧ nth (marks (besUps u1 u2) (besLets l1 l2)) (i + 1) = nth (marks (besUps u1 u2) (besLets l1 l2)) (j + (u1.length + 1)) := by
  have S := bis_marks (bes_ll h1 h2) (bes_wf h1 h2 n0).lt
  refine ⟨fun r => ⟨r.1, r.2.1⟩, fun {a b} r => ?_, fun {a b} r v hv => ?_, fun {a b} r v hv => ?_⟩
  · have := letAt_congr (S.lets (i := a + 1) (j := b + (u1.length + 1)) ⟨by simp; omega, by simp; omega, r.2.2⟩)
    have q := h1.ll
    have q2 := h2.ll
    rw [besL_one (by omega), ← q, besL_two (by omega)] at this
    rw [letAt_some (by omega), letAt_some (by omega), this]
  · obtain ⟨v', hv', z⟩ := S.fw (i := a + 1) (j := b + (u1.length + 1)) ⟨by simp; omega, by simp; omega, r.2.2⟩ (v + 1) (by rw [bes_one r.1]; exact List.mem_map.mpr ⟨v, hv, rfl⟩)
    rw [bes_two r.2.1] at hv'
    obtain ⟨w, hw, rfl⟩ := List.mem_map.mp hv'
    exact ⟨w, hw, h1.ltAt hv, h2.ltAt hw, z.2.2⟩
  · obtain ⟨v', hv', z⟩ := S.bw (i := a + 1) (j := b + (u1.length + 1)) ⟨by simp; omega, by simp; omega, r.2.2⟩ (v + (u1.length + 1)) (by rw [bes_two r.2.1]; exact List.mem_map.mpr ⟨v, hv, rfl⟩)
    rw [bes_one r.1] at hv'
    obtain ⟨w, hw, rfl⟩ := List.mem_map.mp hv'
    exact ⟨w, hw, h1.ltAt hw, h2.ltAt hv, z.2.2⟩
theorem alike_swap (h1 : WF Nm u1 l1) (h2 : WF Nm u2 l2) (n0 : Nm []) (e : nth (marks (besUps u1 u2) (besLets l1 l2)) 1 = nth (marks (besUps u1 u2) (besLets l1 l2)) (u1.length + 1)) :
    nth (marks (besUps u2 u1) (besLets l2 l1)) 1 = nth (marks (besUps u2 u1) (besLets l2 l1)) (u2.length + 1) := by
  have := alike_of_bis h2 h1 (Bis.symm (cross_bis h1 h2 n0)) (i := 0) (j := 0) ⟨h1.pos, h2.pos, by simpa using e⟩
  simpa using this
theorem alike_comm (h1 : WF Nm u1 l1) (h2 : WF Nm u2 l2) (n0 : Nm []) : (nth (marks (besUps u2 u1) (besLets l2 l1)) 1 == nth (marks (besUps u2 u1) (besLets l2 l1)) (u2.length + 1)) = (nth (marks (besUps u1 u2) (besLets l1 l2)) 1 == nth (marks (besUps u1 u2) (besLets l1 l2)) (u1.length + 1)) := by
  rw [Bool.eq_iff_iff, beq_iff_eq, beq_iff_eq]
  exact ⟨fun e => alike_swap h2 h1 n0 e, fun e => alike_swap h1 h2 n0 e⟩
end
theorem ev53 (k : Nat) {n : Nat} {C : Int} {g : List T} (hg : Gs n C g) (hC : C + 10 < 1000000) : ∃ g', eF P W (k + 9) 53 [.cell n] g = .ok (.bl true, 2) g' ∧ Gs n (C + 4) g' ∧ g'.length = g.length := by
  obtain ⟨u1, l1, g1, e1, h1, len1, hg1, gl1⟩ := ev50 (k + 3) hg (by omega)
  obtain ⟨u2, l2, g2, e2, h2, len2, hg2, gl2⟩ := ev50 (k + 3) hg1 (by omega)
  refine ⟨g2, ?_, hg2.mono (by omega), by omega⟩
  have hl : u1.length + u2.length + 1 ≤ 60 := by omega
  have hl' : u2.length + u1.length + 1 ≤ 60 := by omega
  have p := pt_bes h1 h2 hl
  have hb := bes_wf h1 h2 (.inl rfl)
  have e27 := ev27 k h1 h2 hl g2
  have e49 := ev49 (k + 6) p hb.pos g2
  have e33 := ev33 k h1 h2 hl g2
  have e33' := ev33 k h2 h1 hl' g2
  rw [alike_comm h1 h2 (.inl rfl)] at e33'
  have q1 := h1.pos
  have q2 := h2.pos
  have m1 := mark_get p (w := 1) (by rw [besUps_length]; omega)
  have m2 := mark_get p (w := u1.length + 1) (by rw [besUps_length]; omega)
  have i1 : ∀ f, idxV g2 (encI (marks (besUps u1 u2) (besLets l1 l2))) (.int 1) f = some (tI (nth (marks (besUps u1 u2) (besLets l1 l2)) 1), if f = 2 then 2 else 0) := fun f => by
    have := idx_encI (g := g2) (f := f) (x := marks (besUps u1 u2) (besLets l1 l2)) (i := 1)
    rw [m1] at this
    exact this
  have i2 : ∀ f, idxV g2 (encI (marks (besUps u1 u2) (besLets l1 l2))) (.int ((u1.length : Int) + 1)) f = some (tI (nth (marks (besUps u1 u2) (besLets l1 l2)) (u1.length + 1)), if f = 2 then 2 else 0) := fun f => by
    have := idx_encI (g := g2) (f := f) (x := marks (besUps u1 u2) (besLets l1 l2)) (i := u1.length + 1)
    rw [m2] at this
    exact this
  have ei : ∀ a b : Nat, ((a : Int) == (b : Int)) = (a == b) := fun a b => by
    by_cases z : a = b
    · simp [z]
    · have z' : ¬ (a : Int) = (b : Int) := by omega
      rw [beq_eq_false_iff_ne.mpr z, beq_eq_false_iff_ne.mpr z']
  have me := many_eq h1 h2 (.inl rfl)
  have s1 := short_wf h1
  have s2 := short_wf h2
  have b1 := many_le h1.ll
  have b2 := many_le h2.ll
  have e32a := ev32 k h1 (by omega) g2
  have e32b := ev32 k h2 (by omega) g2
  have r1 : ∀ f, biV .repr [(encO (shortUps u1 l1) (shortLets u1 l1), f)] = _ := fun f => repr_encO s1 (by rw [shortUps_length]; omega) (f := f)
  have r2 : ∀ f, biV .repr [(encO (shortUps u2 l2) (shortLets u2 l2), f)] = _ := fun f => repr_encO s2 (by rw [shortUps_length]; omega) (f := f)
  generalize hA : nth (marks (besUps u1 u2) (besLets l1 l2)) 1 = A at i1 e33 e33' me
  generalize hB : nth (marks (besUps u1 u2) (besLets l1 l2)) (u1.length + 1) = B at i2 e33 e33' me
  have e39 := ev39 2 (.lst [.bl (A == B), .bl (A == B)]) (k + 8) g2 (by simp [okL, okLs]) (by simp [T.deep, T.deeps]) (by omega)
  rw [uf53, b53,
    ss_nx (g' := g2) (env' := [some (.cell n, 0), none, none, none, some (encO u1 l1, 0), some (encO u2 l2, 0)]) (by simp [e1, e2, minFl]),
    ss_nx (g' := g2) (env' := [some (.cell n, 0), some (encO (besUps u1 u2) (besLets l1 l2), 0), none, none, some (encO u1 l1, 0), some (encO u2 l2, 0)]) (by simp [e27]),
    ss_nx (g' := g2) (env' := [some (.cell n, 0), some (encO (besUps u1 u2) (besLets l1 l2), 0), some (encI (marks (besUps u1 u2) (besLets l1 l2)), 2), none, some (encO u1 l1, 0), some (encO u2 l2, 0)]) (by simp [e49]),
    ss_nx (g' := g2) (env' := [some (.cell n, 0), some (encO (besUps u1 u2) (besLets l1 l2), 0), some (encI (marks (besUps u1 u2) (besLets l1 l2)), 2), some (.bl (A == B), 2), some (encO u1 l1, 0), some (encO u2 l2, 0)]) (by simp [i1, i2, ei]),
    ss_nx (g' := g2) (env' := [some (.cell n, 0), some (encO (besUps u1 u2) (besLets l1 l2), 0), some (encI (marks (besUps u1 u2) (besLets l1 l2)), 2), some (.bl (A == B), 2), some (encO u1 l1, 0), some (encO u2 l2, 0)]) (by simp [e33, e33', e39])]
  cases c : (A == B) with
  | false =>
    by_cases z : rp (encO (shortUps u1 l1) (shortLets u1 l1)) = rp (encO (shortUps u2 l2) (shortLets u2 l2))
    · simp [ss_cons, e32a, e32b, r1, r2, z]
    · simp [ss_cons, e32a, e32b, r1, r2, z]
  | true =>
    have me := me (by simpa using c)
    by_cases z : rp (encO (shortUps u1 l1) (shortLets u1 l1)) = rp (encO (shortUps u2 l2) (shortLets u2 l2))
    · simp [ss_cons, e32a, e32b, r1, r2, z]
    · simp [ss_cons, e32a, e32b, r1, r2, z, me]
end Fx.K53
end

section
set_option Elab.async false
set_option linter.all false
set_option maxRecDepth 100000
set_option maxHeartbeats 4000000
/-! Ew53: k53, the law. -/
namespace Fx.K53
open PySem PySem.Spec PyProof.Rows L2 Fx Fx.Om
def U1 : List (List Nat) := [[0]]
def L1 : List (List (List Nat)) := [[[97]]]
def U2 : List (List Nat) := [[0, 1], [1]]
def L2' : List (List (List Nat)) := [[], [[97]]]
theorem wf1 : WF NmAB U1 L1 := PW.wf ⟨by decide, by decide, by decide, by decide, by decide, by decide, by decide, fun l hl => by
  simp only [L1, List.mem_singleton] at hl
  subst hl
  exact .inr (.inl rfl)⟩ (by decide)
theorem wf2 : WF NmAB U2 L2' := PW.wf ⟨by decide, by decide, by decide, by decide, by decide, by decide, by decide, fun l hl => by
  simp only [L2', List.mem_cons, List.not_mem_nil, or_false] at hl
  rcases hl with rfl | rfl
  · exact .inl rfl
  · exact .inr (.inl rfl)⟩ (by decide)
theorem k_parts : partsL (besUps U1 U1) (besLets L1 L1) = [[0], [1, 2]] := by decide +kernel
theorem k_ups : shortUps (besUps U1 U1) (besLets L1 L1) = U2 := by decide +kernel
theorem k_lets : shortLets (besUps U1 U1) (besLets L1 L1) = L2' := by decide +kernel
theorem k_yes : (nth (marks (besUps U2 (besUps U1 U1)) (besLets L2' (besLets L1 L1))) 1 == nth (marks (besUps U2 (besUps U1 U1)) (besLets L2' (besLets L1 L1))) (U2.length + 1)) = true := by decide +kernel
theorem k_no : (nth (marks (besUps U1 U2) (besLets L1 L2')) 1 == nth (marks (besUps U1 U2) (besLets L1 L2')) (U1.length + 1)) = false := by decide +kernel
theorem law_turn (k : Nat) (ns : List Int) (j : Nat) (hj : j < 3) (g : List T) (x3 : Option (T × Nat)) : ∃ g' x3', eSs (eF P W (k + 9)) W l54_0 [some (.fro (ns.map T.int), 0), some (tI j, 2), none, x3, none, none] g = .ok (.nx [some (.fro (ns.map T.int), 0), some (tI j, 2), none, x3', none, none]) g' := by
  obtain ⟨a, b, c, e37, b0, b1, c0, c1⟩ := ev37 (k + 7) ns j (by omega) g
  have hg : Gs g.length 100000 (g ++ [.lst [.int a, .int b, .int c]]) := ⟨a, b, c, by simp, b0, b1, c0, c1⟩
  obtain ⟨u, l, g1, e51, wf, len, hg1, gl1⟩ := ev51 k hg (by decide)
  obtain ⟨g2, e52, hg2, gl2⟩ := ev52 k wf len hg1 (by decide)
  obtain ⟨g3, e53, hg3, gl3⟩ := ev53 k hg2 (by decide)
  refine ⟨g3, some (.cell g.length, 0), ?_⟩
  rw [l54_0, ss_nx (g' := g ++ [.lst [.int a, .int b, .int c]]) (env' := [some (.fro (ns.map T.int), 0), some (tI j, 2), none, some (.cell g.length, 0), none, none]) (by simp [e37]),
    ss_nx (g' := g3) (env' := [some (.fro (ns.map T.int), 0), some (tI j, 2), none, some (.cell g.length, 0), none, none]) (by simp [e51, e52, e53])]
  exact ss_nil
theorem ev54 (k : Nat) (ns : List Int) : ∃ g', eF P W (k + 10) 54 [.fro (ns.map T.int)] [] = .ok (.bl true, 2) g' := by
  have loop := forL_map (b := turnF (eF P W (k + 9)) W (.one 1) l54_0) (e := tI) (I := fun don env g' => ∃ x1 x3, env = [some (.fro (ns.map T.int), 0), x1, none, x3, none, none])
    (Q := fun o => ∃ x1 x3 g', o = .ok (.nx [some (.fro (ns.map T.int), 0), x1, none, x3, none, none]) g') (List.range 3) [] [some (.fro (ns.map T.int), 0), none, none, none, none, none] [] ⟨none, none, rfl⟩ (fun pre q post env g' eq hI => ?_) (fun env g' hI => ?_)
  · obtain ⟨x1, x3, g, el⟩ := loop
    refine ⟨g, ?_⟩
    have w1 := wf1
    have w2 := wf2
    have wb := bes_wf w1 w1 (.inl rfl)
    have e27 := ev27 (k + 1) w1 w1 (by decide) g
    have e31 := ev31 (k + 1) wb (by decide) g
    have e32 := ev32 (k + 1) wb (by decide) g
    have e33a := ev33 (k + 1) w2 wb (by decide) g
    have e33b := ev33 (k + 1) w1 w2 (by decide) g
    rw [k_parts] at e31
    rw [k_ups, k_lets] at e32
    rw [k_yes] at e33a
    rw [k_no] at e33b
    have e39 := ev39 5 (.lst [encU [[0], [1, 2]], encO U2 L2', .bl true, .bl false]) (k + 9) g (by decide) (by decide) (by omega)
    have e3 : eIt (eF P W (k + 9)) [none, none, none, none, none, none] (.rng1 (.lit (.int 3))) [] = .ok ((List.range 3).map tI) [] := rng_nat (n := 3) (v := 2) (by simp) (by decide)
    have t1 : T.tup [T.lst [T.lst [T.int 0]], T.lst [T.lst [T.str [97]]]] = encO U1 L1 := rfl
    have t2 : T.tup [T.lst [T.lst [T.int 0, T.int 1], T.lst [T.int 1]], T.lst [T.lst [], T.lst [T.str [97]]]] = encO U2 L2' := rfl
    have t3 : T.lst [T.lst [T.int 0], T.lst [T.int 1, T.int 2]] = encU [[0], [1, 2]] := rfl
    rw [uf54, b54_eq,
      ss_nx (g' := g) (env' := [some (.fro (ns.map T.int), 0), x1, none, x3, none, none]) (by
        rw [s_for]
        simp [e3]
        exact el),
      ss_nx (g' := g) (env' := [some (.fro (ns.map T.int), 0), x1, none, x3, some (encO U2 L2', 2), some (encO U1 L1, 2)]) (by simp [t1, t2, minFl]),
      ss_nx (g' := g) (env' := [some (.fro (ns.map T.int), 0), x1, some (.lst [encU [[0], [1, 2]], encO U2 L2', .bl true, .bl false], 2), x3, some (encO U2 L2', 2), some (encO U1 L1, 2)]) (by simp [e27, e31, e32, e33a, e33b])]
    simp [ss_cons, t3, e39]
  · obtain ⟨x1, x3, rfl⟩ := hI
    rw [List.nil_append] at eq
    obtain ⟨rfl, lt⟩ := range_split eq
    obtain ⟨g2, x3', e⟩ := law_turn k ns pre.length lt g' x3
    refine ⟨_, g2, .inl ?_, some (tI pre.length, 2), x3', rfl⟩
    simp only [turnF, bindV_one]
    exact e
  · obtain ⟨x1, x3, rfl⟩ := hI
    exact ⟨x1, x3, g', rfl⟩
end Fx.K53
end

section
set_option Elab.async false
theorem PySem.Challenge.cw_proofsrun_k53_whole_alike_worlds_made_on_holds : PySem.Challenge.rw_proofsrun_k53_whole_alike_worlds_made_on.Holds := by
  refine Fx.K53.holds_of fun ns hl => ?_
  obtain ⟨g', e⟩ := Fx.K53.ev54 21 ns
  rw [Fx.eF_def] at e
  exact ⟨2, g', e⟩
end
