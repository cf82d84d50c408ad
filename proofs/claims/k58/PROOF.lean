import PyProof.Rows.All
import Wide.All
import OpenK.AllK
import Wide.FinOn
import HandS.ForMost
import HandS.TupAny
import HandS.TupMul
import HandS.Style
import HandS.Wide
import HandS.Zip
import HandS.CallSlots
import HandS.WordsExc
import HandS.Deep
import HandS.Gcd
import KE.SortData
import HandS.IsInst
import HandS.SortInts
import PyProof.ListMulRoad
import PyProof.FactsAll.tuple_2
import PySem.Challenge.RW_plotsagreed_k58_whole_towers
set_option Elab.async false
set_option linter.all false
set_option maxRecDepth 100000
/-! DV1: values without a heap, an intermediate form of expressions and statements, and how they are evaluated. -/
namespace DV
open PySem

/-! ### values -/
inductive D where
  | non | bl (b : Bool) | int (i : Int) | str (x : Str)
  | tup (xs : List D) | lst (xs : List D) | scr (ns : List Int) | fn (x : Str)
  deriving Inhabited, Repr
mutual
def D.beq : D → D → Bool
  | .non, .non => true
  | .bl a, .bl b => a == b
  | .int a, .int b => a == b
  | .str a, .str b => a == b
  | .tup a, .tup b => D.beqs a b
  | .lst a, .lst b => D.beqs a b
  | .scr a, .scr b => a == b
  | .fn a, .fn b => a == b
  | _, _ => false
termination_by structural x => x
def D.beqs : List D → List D → Bool
  | [], [] => true
  | a :: as, b :: bs => D.beq a b && D.beqs as bs
  | _, _ => false
termination_by structural x => x
end
mutual
theorem D.beq_eq : ∀ a b : D, D.beq a b = true → a = b
  | .non, b, h => by cases b <;> simp_all [D.beq]
  | .bl _, b, h => by cases b <;> simp_all [D.beq]
  | .int _, b, h => by cases b <;> simp_all [D.beq]
  | .str _, b, h => by cases b <;> simp_all [D.beq]
  | .tup xs, b, h => by
    cases b <;> simp [D.beq] at h
    rw [D.beqs_eq xs _ h]
  | .lst xs, b, h => by
    cases b <;> simp [D.beq] at h
    rw [D.beqs_eq xs _ h]
  | .scr _, b, h => by cases b <;> simp_all [D.beq]
  | .fn _, b, h => by cases b <;> simp_all [D.beq]
theorem D.beqs_eq : ∀ a b : List D, D.beqs a b = true → a = b
  | [], b, h => by cases b <;> simp_all [D.beqs]
  | x :: xs, b, h => by
    cases b with
    | nil => simp [D.beqs] at h
    | cons y ys =>
      simp [D.beqs] at h
      rw [D.beq_eq x y h.1, D.beqs_eq xs ys h.2]
end
mutual
theorem D.beq_refl : ∀ a : D, D.beq a a = true
  | .non => rfl
  | .bl _ => by simp [D.beq]
  | .int _ => by simp [D.beq]
  | .str _ => by simp [D.beq]
  | .tup xs => by simp only [D.beq]; exact D.beqs_refl xs
  | .lst xs => by simp only [D.beq]; exact D.beqs_refl xs
  | .scr _ => by simp [D.beq]
  | .fn _ => by simp [D.beq]
theorem D.beqs_refl : ∀ a : List D, D.beqs a a = true
  | [] => rfl
  | x :: xs => by simp only [D.beqs, D.beq_refl x, D.beqs_refl xs, Bool.and_self]
end
instance : DecidableEq D := fun a b => if h : D.beq a b = true then isTrue (D.beq_eq a b h) else isFalse fun e => h (e ▸ D.beq_refl a)

/-- what stands in a cell: a list that may change -/
inductive Cell where
  | lst (xs : List D)
  deriving Inhabited, Repr, DecidableEq
abbrev Store := List Cell
/-- what a name holds: a value, or a cell -/
inductive Sv where
  | p (d : D) | c (i : Nat)
  deriving Inhabited, Repr, DecidableEq
abbrev Loc := List (Option Sv)

/-- an exception: its class's name, its number (where its class keeps one) -/
structure Xc where
  cls : Str
  arg : Option D := none

inductive R (α : Type) where
  | ok (a : α) (S : Store)
  | exc (x : Xc) (S : Store)
  | bad
def R.bind {α β : Type} (r : R α) (f : α → Store → R β) : R β :=
  match r with
  | .ok a S => f a S
  | .exc x S => .exc x S
  | .bad => .bad
@[simp] theorem R.bind_ok {α β : Type} {a : α} {S : Store} {f : α → Store → R β} : (R.ok a S).bind f = f a S := (rfl)
@[simp] theorem R.bind_exc {α β : Type} {x : Xc} {S : Store} {f : α → Store → R β} : (R.exc x S : R α).bind f = .exc x S := (rfl)
@[simp] theorem R.bind_bad {α β : Type} {f : α → Store → R β} : (R.bad : R α).bind f = .bad := (rfl)
/-- a partial answer -/
def R.of {α : Type} (o : Option α) (S : Store) : R α :=
  match o with
  | some a => .ok a S
  | none => .bad
@[simp] theorem R.of_some {α : Type} {a : α} {S : Store} : R.of (some a) S = .ok a S := (rfl)
@[simp] theorem R.of_none {α : Type} {S : Store} : (R.of none S : R α) = .bad := (rfl)

/-! ### operations on values -/
/-- the value of what a name holds -/
def der (S : Store) : Sv → Option D
  | .p d => some d
  | .c i => match S[i]? with
    | some (.lst xs) => some (.lst xs)
    | none => none
@[simp] theorem der_p {S : Store} {d : D} : der S (.p d) = some d := (rfl)
def ders (S : Store) : List Sv → Option (List D)
  | [] => some []
  | v :: vs => match der S v with
    | some d => (ders S vs).map (d :: ·)
    | none => none
@[simp] theorem ders_nil {S : Store} : ders S [] = some [] := (rfl)
@[simp] theorem ders_p {S : Store} {d : D} {vs : List Sv} : ders S (.p d :: vs) = (ders S vs).map (d :: ·) := (rfl)
/-- the pure values -/
def pures : List Sv → Option (List D)
  | [] => some []
  | .p d :: vs => (pures vs).map (d :: ·)
  | .c _ :: _ => none
@[simp] theorem pures_nil : pures [] = some [] := (rfl)
@[simp] theorem pures_p {d : D} {vs : List Sv} : pures (.p d :: vs) = (pures vs).map (d :: ·) := (rfl)

def smallI (i : Int) : Prop := -(2 ^ 64) < i ∧ i < 2 ^ 64
instance (i : Int) : Decidable (smallI i) := inferInstanceAs (Decidable (_ ∧ _))
def mulOK (i j : Int) : Prop := smallI i ∨ smallI j ∨ i.natAbs.log2 + j.natAbs.log2 < 1000000
instance (i j : Int) : Decidable (mulOK i j) := inferInstanceAs (Decidable (_ ∨ _))
def divOK (j : Int) : Prop := j ≠ 0 ∧ j.natAbs.log2 < 9000
instance (j : Int) : Decidable (divOK j) := inferInstanceAs (Decidable (_ ∧ _))
def powOK (i j : Int) : Prop := 0 ≤ j ∧ j ≤ 1000000 ∧ i.natAbs < 2 ^ 64
instance (i j : Int) : Decidable (powOK i j) := inferInstanceAs (Decidable (_ ∧ _))

def binD : Operator → D → D → Option D
  | .Add, .int i, .int j => some (.int (i + j))
  | .Sub, .int i, .int j => some (.int (i - j))
  | .Mult, .int i, .int j => if mulOK i j then some (.int (i * j)) else none
  | .FloorDiv, .int i, .int j => if divOK j then some (.int (i.fdiv j)) else none
  | .Mod, .int i, .int j => if j ≠ 0 then some (.int (i.fmod j)) else none
  | .Pow, .int i, .int j => if powOK i j then some (.int (i ^ j.toNat)) else none
  | .Add, .str x, .str y => if x.length + y.length ≤ sizeLine then some (.str (x ++ y)) else none
  | .Add, .lst xs, .lst ys => if xs.length + ys.length ≤ sizeLine then some (.lst (xs ++ ys)) else none
  | .Add, .tup xs, .tup ys => if xs.length + ys.length ≤ sizeLine then some (.tup (xs ++ ys)) else none
  | .Mult, .lst xs, .int k => if -(2 ^ 63) ≤ k ∧ k < 2 ^ 63 ∧ xs.length * k.toNat ≤ sizeLine then some (.lst (List.replicate k.toNat xs).flatten) else none
  | .Mult, .tup xs, .int k => if xs ≠ [] ∧ 2 ≤ k ∧ k ≤ 1000 ∧ xs.length ≤ 1000 then some (.tup (List.replicate k.toNat xs).flatten) else if -(2 ^ 63) ≤ k ∧ k < 2 ^ 63 ∧ (k ≤ 1 ∨ xs = []) then some (.tup (List.replicate k.toNat xs).flatten) else none
  | _, _, _ => none

mutual
def toPy : D → Option PyData
  | .non => some .none
  | .bl b => some (.bool b)
  | .int i => some (.int i)
  | .str x => some (.str x)
  | .tup xs => (toPys xs).map .tuple
  | .lst xs => (toPys xs).map .list
  | .scr _ => none
  | .fn _ => none
termination_by structural x => x
def toPys : List D → Option (List PyData)
  | [] => some []
  | d :: ds => match toPy d with
    | some p => (toPys ds).map (p :: ·)
    | none => none
termination_by structural x => x
end
/-- == -/
def eqD (d e : D) : Option Bool :=
  match toPy d, toPy e with
  | some a, some b => if SeqAt.shaped a = true ∧ SeqAt.shaped b = true then some (PyData.eqv a b) else none
  | _, _ => none
def intsOf : List D → Option (List Int)
  | [] => some []
  | .int i :: ds => (intsOf ds).map (i :: ·)
  | _ => none
def blsOf : List D → Option (List Bool)
  | [] => some []
  | .bl i :: ds => (blsOf ds).map (i :: ·)
  | _ => none
/-- x in a list, a tuple -/
def isIn (x c : D) : Option Bool :=
  match toPy x, c with
  | some a, .lst xs => match toPys xs with
    | some ps => if SeqAt.shaped a = true ∧ SeqAt.shaped (.list ps) = true then some (ps.any fun z => PyData.eqv z a) else none
    | none => none
  | some a, .tup xs => match toPys xs with
    | some ps => if SeqAt.shaped a = true ∧ SeqAt.shaped (.tuple ps) = true then some (ps.any fun z => PyData.eqv z a) else none
    | none => none
  | _, _ => none
def cmpD : CmpOp → D → D → Option Bool
  | .Eq, d, e => eqD d e
  | .NotEq, d, e => (eqD d e).map (!·)
  | .Lt, .int i, .int j => some (decide (i < j))
  | .LtE, .int i, .int j => some (decide (i ≤ j))
  | .Gt, .int i, .int j => some (decide (j < i))
  | .GtE, .int i, .int j => some (decide (j ≤ i))
  | .Lt, .tup xs, .tup ys => match intsOf xs, intsOf ys with
    | some ns, some ms => some (HT.lexLt ns ms)
    | _, _ => none
  | .Is, d, .non => some (decide (d = .non))
  | .IsNot, d, .non => some (!decide (d = .non))
  | .Is, .bl a, .bl b => some (decide (a = b))
  | .IsNot, .bl a, .bl b => some (!decide (a = b))
  | .In, d, c => isIn d c
  | .NotIn, d, c => (isIn d c).map (!·)
  | _, _, _ => none

/-- the truth of a value -/
def truD : D → Option Bool
  | .non => some false
  | .bl b => some b
  | .int i => some (i != 0)
  | .str x => if x.length ≤ sizeLine then some ((x.length : Int) != 0) else none
  | .tup xs => some (!xs.isEmpty)
  | .lst xs => some (!xs.isEmpty)
  | _ => none
def cutD (xs : List D) (lo hi : Option Int) : List D := (xs.drop (HT.sIx xs.length 0 lo)).take (HT.sIx xs.length xs.length hi - HT.sIx xs.length 0 lo)
def ixD : D → D → Option D
  | .lst xs, .int i => L2.atI xs i
  | .tup xs, .int i => L2.atI xs i
  | .str x, .int i => if x.length ≤ sizeLine then (L2.atI x.cps.toList i).map fun c => .str ⟨#[c]⟩ else none
  | _, _ => none
def slD (d : D) (lo hi : Option Int) : Option D :=
  match d with
  | .lst xs => some (.lst (cutD xs lo hi))
  | .tup xs => some (.tup (cutD xs lo hi))
  | _ => none
/-- the greatest, the least -/
def maxI : List Int → Option Int
  | [] => none
  | x :: xs => some (xs.foldl (fun a b => if b > a then b else a) x)
def minI : List Int → Option Int
  | [] => none
  | x :: xs => some (xs.foldl (fun a b => if b < a then b else a) x)
def encD (d : D) : PyData := (toPy d).getD .none
def isTup1 : PyData → Bool
  | .tuple (_ :: _) => true
  | _ => false
def noTupN : PyData → Bool
  | .tuple _ => false
  | .none => false
  | _ => true
def sortOK (ds : List D) : Bool :=
  (ds.all fun d => (toPy d).isSome) && (ds.all fun d => ds.all fun e => PySem.W.alike (encD d) (encD e)) && ((ds.all fun d => isTup1 (encD d)) || (ds.all fun d => noTupN (encD d))) && (ds.all fun d => decide ((encD d).depth ≤ 60))
def sortedD (ds : List D) : Option (List D) := if sortOK ds = true ∧ ds.length ≤ sizeLine then some (ds.mergeSort (PySem.W.dataLe false encD)) else none
/-- which of the built-in classes a value is of -/
inductive Ty where
  | int | bool | str | tuple | list
  deriving DecidableEq, Repr
def isiD : D → Ty → Option Bool
  | .non, _ => some false
  | .bl _, .bool => some true
  | .bl _, .int => some true
  | .bl _, _ => some false
  | .int _, .int => some true
  | .int _, _ => some false
  | .str _, .str => some true
  | .str _, _ => some false
  | .tup _, .tuple => some true
  | .tup _, _ => some false
  | .lst _, .list => some true
  | .lst _, _ => some false
  | _, _ => none
def tyTab : List (Str × Ty) := [("int", .int), ("bool", .bool), ("str", .str), ("tuple", .tuple), ("list", .list)]
def Ty.name : Ty → String
  | .int => "int" | .bool => "bool" | .str => "str" | .tuple => "tuple" | .list => "list"

/-! the built-in functions and classes, called -/
def biLen : List D → Option D
  | [.lst xs] => some (.int xs.length)
  | [.tup xs] => some (.int xs.length)
  | [.str x] => if x.length ≤ sizeLine then some (.int x.length) else none
  | _ => none
def biAbs : List D → Option D
  | [.int i] => some (.int (if i < 0 then -i else i))
  | _ => none
def biMax : List D → Option D
  | [.int i, .int j] => some (.int (if j > i then j else i))
  | [.lst xs] => (intsOf xs).bind fun ns => (maxI ns).map .int
  | _ => none
def biMin : List D → Option D
  | [.int i, .int j] => some (.int (if j < i then j else i))
  | [.lst xs] => (intsOf xs).bind fun ns => (minI ns).map .int
  | _ => none
def biSum : List D → Option D
  | [.lst xs] => (intsOf xs).map fun ns => .int ns.sum
  | _ => none
def biAny : List D → Option D
  | [.lst xs] => (blsOf xs).map fun ns => .bl (ns.any id)
  | _ => none
def biAll : List D → Option D
  | [.lst xs] => (blsOf xs).map fun ns => .bl (ns.all id)
  | _ => none
def biInt : List D → Option D
  | [.int i] => some (.int i)
  | [.bl b] => some (.int (if b then 1 else 0))
  | _ => none
def biTuple : List D → Option D
  | [.lst xs] => some (.tup xs)
  | [.tup xs] => some (.tup xs)
  | _ => none
def biList : List D → Option D
  | [.lst xs] => some (.lst xs)
  | [.tup xs] => some (.lst xs)
  | [.scr ns] => some (.lst (ns.map .int))
  | _ => none
def biSorted : List D → Option D
  | [.lst xs] => (sortedD xs).map .lst
  | _ => none
def biGcd : List D → Option D
  | [.int i, .int j] => some (.int ((Nat.gcd i.natAbs j.natAbs : Nat) : Int))
  | _ => none
/-- which of them -/
inductive Bi where
  | len | abs | max | min | sum | any | all | int | tuple | list | sorted | gcd
  deriving DecidableEq, Repr
def biF : Bi → List D → Option D
  | .len => biLen | .abs => biAbs | .max => biMax | .min => biMin | .sum => biSum | .any => biAny | .all => biAll | .int => biInt | .tuple => biTuple | .list => biList | .sorted => biSorted | .gcd => biGcd
/-- those whose list is new -/
def biFresh : Bi → Bool
  | .list => true | .sorted => true | _ => false
def biTab : List (Str × Bi) := [("len", .len), ("abs", .abs), ("max", .max), ("min", .min), ("sum", .sum), ("any", .any), ("all", .all), ("int", .int), ("tuple", .tuple), ("list", .list), ("sorted", .sorted)]

/-! ### the intermediate form -/
/-- targets -/
inductive DT where
  | name (i : Nat) | tup (ts : List DT)
  deriving Repr
/-- what is walked: a sequence, a range, zip, enumerate -/
inductive IK where
  | seq | rng | zip | enum
  deriving Repr, DecidableEq
inductive DE where
  | var (i : Nat) | con (d : D)
  | bin (op : Operator) (a b : DE) | neg (a : DE)
  | cmp (op : CmpOp) (a b : DE) | chain (op op' : CmpOp) (a b c : DE)
  | and (a b : DE) | or (a b : DE) | not (a : DE) | ife (c a b : DE)
  | tup (es : List DE) | lst (es : List DE)
  | ix (a i : DE) | sl (a : DE) (lo hi : Option DE)
  | call (x : Str) (fr : Bool) (es : List DE) | bi (x : Bi) (es : List DE) | isi (a : DE) (T : Ty)
  | lc (elt : DE) (tg : DT) (k : IK) (args : List DE) (ifs : List DE) (own : List Nat)
inductive DS where
  | asg (tg : DT) (e : DE) | new (i : Nat) (e : DE) | par (is : List Nat) (es : List DE)
  | aug (i : Nat) (op : Operator) (e : DE)
  | setix (a i e : DE) | app (a e : DE)
  | expr (e : DE) | ret (e : DE) | retF (e : DE) | retN | pass | brk | cont
  | ife (c : DE) (a b : List DS)
  | for (tg : DT) (k : IK) (args : List DE) (body : List DS)
  | while (c : DE) (body : List DS)
  | never

/-! ### evaluation -/
def lget (ρ : Loc) (i : Nat) : Option Sv := match ρ[i]? with
  | some (some v) => some v
  | _ => none
mutual
def bindT : DT → Sv → Loc → Option Loc
  | .name i, v, ρ => some (ρ.set i (some v))
  | .tup ts, v, ρ => match v with
    | .p (.tup ds) => bindTs ts ds ρ
    | _ => none
termination_by structural x => x
def bindTs : List DT → List D → Loc → Option Loc
  | [], [], ρ => some ρ
  | t :: ts, d :: ds, ρ => match bindT t (.p d) ρ with
    | some ρ' => bindTs ts ds ρ'
    | none => none
  | _, _, _ => none
termination_by structural x => x
end
def wipeρ (ρ : Loc) : List Nat → Loc
  | [] => ρ
  | v :: vs => (wipeρ ρ vs).set v none
/-- what is watched while it is walked -/
abbrev Watch := List (Nat × Cell)
def watched (W : Watch) (S : Store) : Bool := W.all fun p => decide (S[p.1]? = some p.2)
@[simp] theorem watched_nil {S : Store} : watched [] S = true := (rfl)
def watchOf (S : Store) : Sv → Watch
  | .p _ => []
  | .c i => match S[i]? with
    | some c => [(i, c)]
    | none => []
@[simp] theorem watchOf_p {S : Store} {d : D} : watchOf S (.p d) = [] := (rfl)
def seqOf : D → Option (List D)
  | .lst xs => some xs
  | .tup xs => some xs
  | _ => none
def rngOK (i : Int) : Prop := -(2 ^ 62) ≤ i ∧ i < 2 ^ 62
instance (i : Int) : Decidable (rngOK i) := inferInstanceAs (Decidable (_ ∧ _))
def rngD (lo : Int) (n : Nat) : List D := (List.range n).map fun k => .int (lo + (k : Nat))
def rngDown (lo : Int) (n : Nat) : List D := (List.range n).map fun k => .int (lo + (k : Nat) * (-1))
def zipD (xs ys : List D) : List D := (xs.zip ys).map fun p => .tup [p.1, p.2]
def enumD (xs : List D) : List D := (xs.zipIdx).map fun p => .tup [.int (p.2 : Nat), p.1]
/-- the items of what is walked -/
def itemsOf (k : IK) (vs : List Sv) (S : Store) : Option (List D × Watch) :=
  match k, vs with
  | .seq, [v] => (der S v).bind fun d => (seqOf d).map fun xs => (xs, watchOf S v)
  | .rng, [.p (.int j)] => if rngOK j then some (rngD 0 j.toNat, []) else none
  | .rng, [.p (.int i), .p (.int j)] => if rngOK i ∧ rngOK j then some (rngD i (j - i).toNat, []) else none
  | .rng, [.p (.int i), .p (.int j), .p (.int c)] => if rngOK i ∧ rngOK j ∧ c = -1 then some (rngDown i (i - j).toNat, []) else none
  | .zip, [v, w] => match der S v, der S w with
    | some (.lst xs), some (.lst ys) => some (zipD xs ys, watchOf S v ++ watchOf S w)
    | some (.tup xs), some (.tup ys) => some (zipD xs ys, [])
    | _, _ => none
  | .enum, [v] => match der S v with
    | some (.lst xs) => some (enumD xs, watchOf S v)
    | _ => none
  | _, _ => none

/-- an expression that makes a new list (or an int ..) -/
def frsh : DE → Bool
  | .bin op _ _ => match op with
    | .Add | .Mult => true
    | _ => false
  | .lst _ => true
  | .sl _ _ _ => true
  | .call _ fr _ => fr
  | .bi x _ => biFresh x
  | .lc .. => true
  | _ => false

/-- nothing may be raised -/
def R.nox {α : Type} : R α → R α
  | .ok a S => .ok a S
  | _ => .bad
@[simp] theorem R.nox_ok {α : Type} {a : α} {S : Store} : (R.ok a S).nox = .ok a S := (rfl)
/-- a comprehension's turns -/
def lcL (turn : D → Store → R (Option D)) (W : Watch) : List D → Store → R (List D)
  | [], S => if watched W S then .ok [] S else .bad
  | d :: ds, S => if watched W S then
      (turn d S).nox.bind fun o S1 => (lcL turn W ds S1).bind fun r S2 => .ok (match o with | some y => y :: r | none => r) S2
    else .bad

abbrev CallF := Str → List Sv → Store → R Sv
section
variable (call : CallF)
mutual
def evE : DE → Loc → Store → R Sv
  | .var i, ρ, S => R.of (lget ρ i) S
  | .con d, _, S => .ok (.p d) S
  | .bin op a b, ρ, S => (evE a ρ S).bind fun x S1 => (evE b ρ S1).bind fun y S2 => match der S2 x, der S2 y with
    | some d, some e => R.of ((binD op d e).map .p) S2
    | _, _ => .bad
  | .neg a, ρ, S => (evE a ρ S).bind fun x S1 => match x with
    | .p (.int i) => .ok (.p (.int (-i))) S1
    | _ => .bad
  | .cmp op a b, ρ, S => (evE a ρ S).bind fun x S1 => (evE b ρ S1).bind fun y S2 => match der S2 x, der S2 y with
    | some d, some e => R.of ((cmpD op d e).map fun k => .p (.bl k)) S2
    | _, _ => .bad
  | .chain op op' a b c, ρ, S => (evE a ρ S).bind fun x S1 => (evE b ρ S1).bind fun y S2 => match x, y with
    | .p d, .p e => match cmpD op d e with
      | some true => (evE c ρ S2).bind fun z S3 => match z with
        | .p f => R.of ((cmpD op' e f).map fun k => .p (.bl k)) S3
        | _ => .bad
      | some false => .ok (.p (.bl false)) S2
      | none => .bad
    | _, _ => .bad
  | .and a b, ρ, S => (evE a ρ S).bind fun x S1 => match x with
    | .p (.bl true) => evE b ρ S1
    | .p (.bl false) => .ok (.p (.bl false)) S1
    | _ => .bad
  | .or a b, ρ, S => (evE a ρ S).bind fun x S1 => match x with
    | .p (.bl true) => .ok (.p (.bl true)) S1
    | .p (.bl false) => evE b ρ S1
    | _ => .bad
  | .not a, ρ, S => (evE a ρ S).bind fun x S1 => match x with
    | .p (.bl k) => .ok (.p (.bl (!k))) S1
    | _ => .bad
  | .ife c a b, ρ, S => (evT c ρ S).bind fun k S1 => if k = true then evE a ρ S1 else evE b ρ S1
  | .tup es, ρ, S => (evL es ρ S).bind fun vs S1 => match pures vs with
    | some ds => .ok (.p (.tup ds)) S1
    | none => .bad
  | .lst es, ρ, S => (evL es ρ S).bind fun vs S1 => match pures vs with
    | some ds => .ok (.p (.lst ds)) S1
    | none => .bad
  | .ix a i, ρ, S => (evE a ρ S).bind fun x S1 => (evE i ρ S1).bind fun y S2 => match der S2 x, y with
    | some d, .p e => R.of ((ixD d e).map .p) S2
    | _, _ => .bad
  | .sl a lo hi, ρ, S => (evE a ρ S).bind fun x S1 => (evO lo ρ S1).bind fun l S2 => (evO hi ρ S2).bind fun h S3 => match der S3 x with
    | some d => R.of ((slD d l h).map .p) S3
    | none => .bad
  | .call x _ es, ρ, S => (evL es ρ S).bind fun vs S1 => call x vs S1
  | .bi x es, ρ, S => (evL es ρ S).bind fun vs S1 => match ders S1 vs with
    | some ds => R.of ((biF x ds).map .p) S1
    | none => .bad
  | .isi a T, ρ, S => (evE a ρ S).bind fun x S1 => match der S1 x with
    | some d => R.of ((isiD d T).map fun k => .p (.bl k)) S1
    | none => .bad
  | .lc elt tg k args ifs own, ρ, S => (evL args ρ S).bind fun vs S1 => match itemsOf k vs S1 with
    | none => .bad
    | some (ds, W) => (lcL (fun d S => match bindT tg (.p d) (wipeρ ρ own) with
        | none => .bad
        | some ρ' => (evTs ifs ρ' S).bind fun t S1 => if t = true then (evE elt ρ' S1).bind fun y S2 => (match y with
            | .p y => .ok (some y) S2
            | .c _ => .bad)
          else .ok none S1) W ds S1).bind fun r S2 => if r.length ≤ sizeLine then .ok (.p (.lst r)) S2 else .bad
termination_by structural x => x
/-- as a test -/
def evT : DE → Loc → Store → R Bool
  | .and a b, ρ, S => (evT a ρ S).bind fun k S1 => if k = true then evT b ρ S1 else .ok false S1
  | .or a b, ρ, S => (evT a ρ S).bind fun k S1 => if k = true then .ok true S1 else evT b ρ S1
  | .not a, ρ, S => (evT a ρ S).bind fun k S1 => .ok (!k) S1
  | .ife _ _ _, _, _ => .bad
  | .var i, ρ, S => (R.of (lget ρ i) S).bind fun x S1 => R.of ((der S1 x).bind truD) S1
  | .con d, _, S => R.of (truD d) S
  | .cmp op a b, ρ, S => (evE a ρ S).bind fun x S1 => (evE b ρ S1).bind fun y S2 => match der S2 x, der S2 y with
    | some d, some e => R.of (cmpD op d e) S2
    | _, _ => .bad
  | .chain op op' a b c, ρ, S => (evE a ρ S).bind fun x S1 => (evE b ρ S1).bind fun y S2 => match x, y with
    | .p d, .p e => match cmpD op d e with
      | some true => (evE c ρ S2).bind fun z S3 => match z with
        | .p f => R.of (cmpD op' e f) S3
        | _ => .bad
      | some false => .ok false S2
      | none => .bad
    | _, _ => .bad
  | .call x _ es, ρ, S => (evL es ρ S).bind fun vs S1 => (call x vs S1).bind fun x S2 => R.of ((der S2 x).bind truD) S2
  | .bi x es, ρ, S => (evL es ρ S).bind fun vs S1 => match ders S1 vs with
    | some ds => R.of ((biF x ds).bind truD) S1
    | none => .bad
  | .isi a T, ρ, S => (evE a ρ S).bind fun x S1 => match der S1 x with
    | some d => R.of (isiD d T) S1
    | none => .bad
  | .ix a i, ρ, S => (evE a ρ S).bind fun x S1 => (evE i ρ S1).bind fun y S2 => match der S2 x, y with
    | some d, .p e => R.of ((ixD d e).bind truD) S2
    | _, _ => .bad
  | .bin op a b, ρ, S => (evE a ρ S).bind fun x S1 => (evE b ρ S1).bind fun y S2 => match der S2 x, der S2 y with
    | some d, some e => R.of ((binD op d e).bind truD) S2
    | _, _ => .bad
  | _, _, _ => .bad
termination_by structural x => x
def evL : List DE → Loc → Store → R (List Sv)
  | [], _, S => .ok [] S
  | e :: es, ρ, S => (evE e ρ S).bind fun v S1 => (evL es ρ S1).bind fun vs S2 => .ok (v :: vs) S2
termination_by structural x => x
def evO : Option DE → Loc → Store → R (Option Int)
  | none, _, S => .ok none S
  | some e, ρ, S => (evE e ρ S).bind fun v S1 => match v with
    | .p (.int i) => .ok (some i) S1
    | _ => .bad
termination_by structural x => x
def evTs : List DE → Loc → Store → R Bool
  | [], _, S => .ok true S
  | e :: es, ρ, S => (evT e ρ S).bind fun k S1 => if k = true then evTs es ρ S1 else .ok false S1
termination_by structural x => x
end
end

/-- a statement's end -/
inductive SR where
  | nx (ρ : Loc) (S : Store) | ret (v : Sv) (S : Store) | bk (ρ : Loc) (S : Store) | ct (ρ : Loc) (S : Store)
  | exc (x : Xc) (ρ : Loc) (S : Store) | bad
/-- behind an expression -/
def R.st {α : Type} (r : R α) (ρ : Loc) (f : α → Store → SR) : SR :=
  match r with
  | .ok a S => f a S
  | .exc x S => .exc x ρ S
  | .bad => .bad
@[simp] theorem R.st_ok {α : Type} {a : α} {S : Store} {ρ : Loc} {f : α → Store → SR} : (R.ok a S).st ρ f = f a S := (rfl)
@[simp] theorem R.st_exc {α : Type} {x : Xc} {S : Store} {ρ : Loc} {f : α → Store → SR} : (R.exc x S : R α).st ρ f = .exc x ρ S := (rfl)
@[simp] theorem R.st_bad {α : Type} {ρ : Loc} {f : α → Store → SR} : (R.bad : R α).st ρ f = .bad := (rfl)
def SR.of (o : Option Loc) (S : Store) : SR :=
  match o with
  | some ρ => .nx ρ S
  | none => .bad
@[simp] theorem SR.of_some {ρ : Loc} {S : Store} : SR.of (some ρ) S = .nx ρ S := (rfl)
@[simp] theorem SR.of_none {S : Store} : SR.of none S = .bad := (rfl)
/-- one statement behind another -/
def SR.seq (r : SR) (f : Loc → Store → SR) : SR :=
  match r with
  | .nx ρ S => f ρ S
  | r => r
@[simp] theorem SR.seq_nx {ρ : Loc} {S : Store} {f : Loc → Store → SR} : (SR.nx ρ S).seq f = f ρ S := (rfl)
@[simp] theorem SR.seq_ret {v : Sv} {S : Store} {f : Loc → Store → SR} : (SR.ret v S).seq f = .ret v S := (rfl)
@[simp] theorem SR.seq_bk {ρ : Loc} {S : Store} {f : Loc → Store → SR} : (SR.bk ρ S).seq f = .bk ρ S := (rfl)
@[simp] theorem SR.seq_ct {ρ : Loc} {S : Store} {f : Loc → Store → SR} : (SR.ct ρ S).seq f = .ct ρ S := (rfl)
@[simp] theorem SR.seq_exc {x : Xc} {ρ : Loc} {S : Store} {f : Loc → Store → SR} : (SR.exc x ρ S).seq f = .exc x ρ S := (rfl)
@[simp] theorem SR.seq_bad {f : Loc → Store → SR} : (SR.bad).seq f = .bad := (rfl)
/-- behind a loop's turn -/
def SR.turn (r : SR) (f : Loc → Store → SR) : SR :=
  match r with
  | .nx ρ S => f ρ S
  | .ct ρ S => f ρ S
  | .bk ρ S => .nx ρ S
  | r => r
@[simp] theorem SR.turn_nx {ρ : Loc} {S : Store} {f : Loc → Store → SR} : (SR.nx ρ S).turn f = f ρ S := (rfl)
@[simp] theorem SR.turn_ct {ρ : Loc} {S : Store} {f : Loc → Store → SR} : (SR.ct ρ S).turn f = f ρ S := (rfl)
@[simp] theorem SR.turn_bk {ρ : Loc} {S : Store} {f : Loc → Store → SR} : (SR.bk ρ S).turn f = .nx ρ S := (rfl)
@[simp] theorem SR.turn_ret {v : Sv} {S : Store} {f : Loc → Store → SR} : (SR.ret v S).turn f = .ret v S := (rfl)
@[simp] theorem SR.turn_exc {x : Xc} {ρ : Loc} {S : Store} {f : Loc → Store → SR} : (SR.exc x ρ S).turn f = .exc x ρ S := (rfl)
@[simp] theorem SR.turn_bad {f : Loc → Store → SR} : (SR.bad).turn f = .bad := (rfl)

def forL (tg : DT) (body : Loc → Store → SR) (W : Watch) : List D → Loc → Store → SR
  | [], ρ, S => if watched W S then .nx ρ S else .bad
  | d :: ds, ρ, S => if watched W S then (match bindT tg (.p d) ρ with
      | some ρ' => (body ρ' S).turn fun ρ S => forL tg body W ds ρ S
      | none => .bad) else .bad
def whileL (c : Loc → Store → R Bool) (body : Loc → Store → SR) : Nat → Loc → Store → SR
  | 0, _, _ => .bad
  | n + 1, ρ, S => (c ρ S).st ρ fun k S1 => if k = true then (body ρ S1).turn fun ρ S => whileL c body n ρ S else .nx ρ S1

section
variable (call : CallF) (wf : Nat)
mutual
def evS : DS → Loc → Store → SR
  | .asg tg e, ρ, S => (evE call e ρ S).st ρ fun v S1 => SR.of (bindT tg v ρ) S1
  | .new i e, ρ, S => (evE call e ρ S).st ρ fun v S1 => match v with
    | .p (.lst xs) => if frsh e then .nx (ρ.set i (some (.c S1.length))) (S1 ++ [.lst xs]) else .bad
    | v => .nx (ρ.set i (some v)) S1
  | .par is es, ρ, S => (evL call es ρ S).st ρ fun vs S1 => if is.length = vs.length then .nx ((is.zip vs).foldl (fun ρ p => ρ.set p.1 (some p.2)) ρ) S1 else .bad
  | .aug i op e, ρ, S => match lget ρ i with
    | some (.p d) => (evE call e ρ S).st ρ fun v S1 => match v with
      | .p e => (match d, e, binD op d e with
        | .int _, .int _, some r => .nx (ρ.set i (some (.p r))) S1
        | _, _, _ => .bad)
      | _ => .bad
    | _ => .bad
  | .setix a i e, ρ, S => (evE call e ρ S).st ρ fun v S1 => (evE call a ρ S1).st ρ fun x S2 => (evE call i ρ S2).st ρ fun y S3 => match v, x, y with
    | .p d, .c j, .p (.int k) => (match S3[j]? with
      | some (.lst xs) => (match L2.ixN xs.length k with
        | some m => .nx ρ (S3.set j (.lst (xs.set m d)))
        | none => .bad)
      | none => .bad)
    | _, _, _ => .bad
  | .app a e, ρ, S => (evE call a ρ S).st ρ fun x S1 => match x with
    | .c j => (evE call e ρ S1).st ρ fun v S2 => (match v with
      | .p d => (match S2[j]? with
        | some (.lst xs) => if xs.length < sizeLine then .nx ρ (S2.set j (.lst (xs ++ [d]))) else .bad
        | none => .bad)
      | .c _ => .bad)
    | .p _ => .bad
  | .expr e, ρ, S => (evE call e ρ S).st ρ fun _ S1 => .nx ρ S1
  | .ret e, ρ, S => (evE call e ρ S).st ρ fun v S1 => .ret v S1
  | .retF e, ρ, S => (evE call e ρ S).st ρ fun v S1 => match v with
    | .p d => if frsh e then .ret (.p d) S1 else .bad
    | .c i => .ret (.c i) S1
  | .retN, _, S => .ret (.p .non) S
  | .pass, ρ, S => .nx ρ S
  | .brk, ρ, S => .bk ρ S
  | .cont, ρ, S => .ct ρ S
  | .ife c a b, ρ, S => (evT call c ρ S).st ρ fun k S1 => if k = true then evB a ρ S1 else evB b ρ S1
  | .for tg k args body, ρ, S => (evL call args ρ S).st ρ fun vs S1 => match itemsOf k vs S1 with
    | some (ds, W) => forL tg (evB body) W ds ρ S1
    | none => .bad
  | .while c body, ρ, S => whileL (evT call c) (evB body) wf ρ S
  | .never, _, _ => .bad
termination_by structural x => x
def evB : List DS → Loc → Store → SR
  | [], ρ, S => .nx ρ S
  | s :: ss, ρ, S => (evS s ρ S).seq fun ρ S => evB ss ρ S
termination_by structural x => x
end
end

/-- a def: its number of parameters, of names, whether what it hands back is new, its body -/
structure Df where
  ps : Nat
  ns : Nat
  fr : Bool
  body : List DS
def finish (fr : Bool) (n : Nat) (v : Sv) (S : Store) : R Sv :=
  match v with
  | .p d => .ok (.p d) (S.take n)
  | .c i => if i < n then (if fr then .bad else .ok (.c i) (S.take n)) else match S[i]? with
    | some (.lst xs) => .ok (.p (.lst xs)) (S.take n)
    | none => .bad
def finishR (fr : Bool) (n : Nat) : SR → R Sv
  | .nx _ S => .ok (.p .non) (S.take n)
  | .ret v S => finish fr n v S
  | .exc x _ S => .exc x (S.take n)
  | _ => .bad
def runDef (call : CallF) (wf : Nat) (d : Df) (vs : List Sv) (S : Store) : R Sv :=
  if vs.length = d.ps then finishR d.fr S.length (evB call wf d.body (vs.map some ++ List.replicate (d.ns - d.ps) none) S) else .bad
/-- the defs of a text -/
abbrev Tab := List (Str × Df)
def callF (T : Tab) (wf : Nat) : Nat → CallF
  | 0 => fun _ _ _ => .bad
  | k + 1 => fun x vs S => match T.lookup x with
    | some d => runDef (callF T wf k) wf d vs S
    | none => .bad
end DV

set_option Elab.async false
set_option linter.all false
set_option maxRecDepth 100000
set_option maxHeartbeats 4000000
/-! DV2: how values without a heap lie on the heap; operators. -/
namespace DV
open PySem PySem.Spec PyProof.Rows L2

/-! ### what a value stands for -/
def Le (F H : Hp) : Prop := ∀ a o, F a = some o → H a = some o
theorem Le.refl (F : Hp) : Le F F := fun _ _ h => h
theorem Le.trans {F G H : Hp} (a : Le F G) (b : Le G H) : Le F H := fun c o h => b c o (a c o h)
theorem Le.upd {F : Hp} {p : Addr} {o : HO} (h : F p = none) : Le F (upd F p o) := fun b u e => by rw [upd_ne (ne_of_none e h)]; exact e
theorem Le.rd {F H : Hp} (l : Le F H) {a : Addr} {u : HO} (r : Rd F a u) : Rd H a u := by
  rcases r with r | ⟨o, r⟩
  · exact .inl (l _ _ r)
  · exact .inr ⟨o, l _ _ r⟩
theorem Le.sqL {K : PySem.W.Frag} {F H : Hp} (l : Le F H) {a : Addr} {xs : List V} (r : SqL K F a xs) : SqL K H a xs := r.imp l.rd id
theorem Le.sqT {K : PySem.W.Frag} {F H : Hp} (l : Le F H) {a : Addr} {xs : List V} (r : SqT K F a xs) : SqT K H a xs := r.imp l.rd id

section
variable (K : PySem.W.Frag) (F : Hp)
mutual
def Rep : D → V → Prop
  | .non, x => x = .non
  | .bl b, x => x = .bl b
  | .int i, x => x = .int i
  | .str s, x => x = .str s
  | .tup ds, x => ∃ a vs, x = .ref a ∧ SqT K F a vs ∧ Reps ds vs
  | .lst ds, x => ∃ a vs, x = .ref a ∧ F a = some (.lst vs) ∧ Reps ds vs
  | .scr ns, x => ∃ a, x = .ref a ∧ SqL K F a (ns.map V.int)
  | .fn _, _ => False
termination_by structural x => x
def Reps : List D → List V → Prop
  | [], xs => xs = []
  | d :: ds, xs => ∃ v vs, xs = v :: vs ∧ Rep d v ∧ Reps ds vs
termination_by structural x => x
end
end
section
variable {K : PySem.W.Frag} {F G : Hp}
mutual
theorem Rep.mono (l : Le F G) : ∀ {d : D} {x : V}, Rep K F d x → Rep K G d x
  | .non, _, h => h
  | .bl _, _, h => h
  | .int _, _, h => h
  | .str _, _, h => h
  | .tup ds, _, ⟨a, vs, e, s, r⟩ => ⟨a, vs, e, l.sqT s, Reps.mono l r⟩
  | .lst ds, _, ⟨a, vs, e, s, r⟩ => ⟨a, vs, e, l _ _ s, Reps.mono l r⟩
  | .scr ns, _, ⟨a, e, s⟩ => ⟨a, e, l.sqL s⟩
theorem Reps.mono (l : Le F G) : ∀ {ds : List D} {xs : List V}, Reps K F ds xs → Reps K G ds xs
  | [], _, h => h
  | d :: ds, _, ⟨v, vs, e, h, r⟩ => ⟨v, vs, e, Rep.mono l h, Reps.mono l r⟩
end
theorem Reps.nil : Reps K F [] [] := rfl
theorem Reps.cons {d : D} {v : V} {ds : List D} {vs : List V} (h : Rep K F d v) (r : Reps K F ds vs) : Reps K F (d :: ds) (v :: vs) := ⟨v, vs, rfl, h, r⟩
theorem Reps.length : ∀ {ds : List D} {vs : List V}, Reps K F ds vs → vs.length = ds.length
  | [], _, h => by cases h; rfl
  | d :: ds, _, ⟨v, vs, e, h, r⟩ => by subst e; simp [Reps.length r]
theorem Reps.append : ∀ {ds es : List D} {vs ws : List V}, Reps K F ds vs → Reps K F es ws → Reps K F (ds ++ es) (vs ++ ws)
  | [], _, _, _, h, k => by cases h; exact k
  | d :: ds, _, _, _, ⟨v, vs, e, h, r⟩, k => by subst e; exact Reps.cons h (Reps.append r k)
theorem Reps.get : ∀ {ds : List D} {vs : List V} {i : Nat} {d : D}, Reps K F ds vs → ds[i]? = some d → ∃ v, vs[i]? = some v ∧ Rep K F d v
  | [], _, _, _, _, e => by simp at e
  | d :: ds, _, 0, _, ⟨v, vs, ev, h, r⟩, e => by subst ev; simp at e; subst e; exact ⟨v, rfl, h⟩
  | d :: ds, _, i + 1, _, ⟨v, vs, ev, h, r⟩, e => by
    subst ev
    obtain ⟨w, h1, h2⟩ := Reps.get (i := i) r (by simpa using e)
    exact ⟨w, by simpa using h1, h2⟩
theorem Reps.getV : ∀ {ds : List D} {vs : List V} {i : Nat} {v : V}, Reps K F ds vs → vs[i]? = some v → ∃ d, ds[i]? = some d ∧ Rep K F d v := fun {ds vs i v} r e => by
  obtain ⟨h, e1⟩ := List.getElem?_eq_some_iff.mp e
  have hl := r.length
  have h2 : i < ds.length := by omega
  obtain ⟨w, e2, q⟩ := r.get (List.getElem?_eq_getElem h2)
  rw [e] at e2; cases e2
  exact ⟨_, List.getElem?_eq_getElem h2, q⟩
theorem Reps.set : ∀ {ds : List D} {vs : List V} {i : Nat} {d : D} {v : V}, Reps K F ds vs → Rep K F d v → Reps K F (ds.set i d) (vs.set i v)
  | [], _, _, _, _, h, _ => by cases h; exact rfl
  | d :: ds, _, 0, _, _, ⟨v, vs, e, h, r⟩, k => by subst e; exact Reps.cons k r
  | d :: ds, _, i + 1, _, _, ⟨v, vs, e, h, r⟩, k => by subst e; exact Reps.cons h (Reps.set (i := i) r k)
theorem Reps.drop : ∀ {ds : List D} {vs : List V} (n : Nat), Reps K F ds vs → Reps K F (ds.drop n) (vs.drop n)
  | _, _, 0, h => h
  | [], _, n + 1, h => by cases h; exact rfl
  | d :: ds, _, n + 1, ⟨v, vs, e, h, r⟩ => by subst e; exact Reps.drop n r
theorem Reps.take : ∀ {ds : List D} {vs : List V} (n : Nat), Reps K F ds vs → Reps K F (ds.take n) (vs.take n)
  | _, _, 0, h => by rw [List.take_zero, List.take_zero]; exact rfl
  | [], _, n + 1, h => by cases h; exact rfl
  | d :: ds, _, n + 1, ⟨v, vs, e, h, r⟩ => by subst e; exact Reps.cons h (Reps.take n r)
theorem Reps.rep {ds : List D} {vs : List V} (h : Reps K F ds vs) : ∀ n : Nat, Reps K F (List.replicate n ds).flatten (List.replicate n vs).flatten
  | 0 => rfl
  | n + 1 => by rw [List.replicate_succ, List.replicate_succ, List.flatten_cons, List.flatten_cons]; exact h.append (h.rep n)
theorem Reps.ints : ∀ {ds : List D} {vs : List V} {ns : List Int}, Reps K F ds vs → intsOf ds = some ns → vs = ns.map V.int
  | [], _, _, h, e => by cases h; simp [intsOf] at e; subst e; rfl
  | .int i :: ds, _, _, ⟨v, vs, ev, h, r⟩, e => by
    simp only [intsOf, Option.map_eq_some_iff] at e
    obtain ⟨ns, e1, rfl⟩ := e
    subst ev
    rw [Reps.ints r e1]
    cases (show v = .int i from h)
    rfl
  | .non :: _, _, _, _, e => by simp [intsOf] at e
  | .bl _ :: _, _, _, _, e => by simp [intsOf] at e
  | .str _ :: _, _, _, _, e => by simp [intsOf] at e
  | .tup _ :: _, _, _, _, e => by simp [intsOf] at e
  | .lst _ :: _, _, _, _, e => by simp [intsOf] at e
  | .scr _ :: _, _, _, _, e => by simp [intsOf] at e
  | .fn _ :: _, _, _, _, e => by simp [intsOf] at e
theorem Reps.ofInts : ∀ (ns : List Int), Reps K F (ns.map D.int) (ns.map V.int)
  | [] => rfl
  | n :: ns => Reps.cons rfl (Reps.ofInts ns)
theorem Reps.bls : ∀ {ds : List D} {vs : List V} {ns : List Bool}, Reps K F ds vs → blsOf ds = some ns → vs = ns.map V.bl
  | [], _, _, h, e => by cases h; simp [blsOf] at e; subst e; rfl
  | .bl i :: ds, _, _, ⟨v, vs, ev, h, r⟩, e => by
    simp only [blsOf, Option.map_eq_some_iff] at e
    obtain ⟨ns, e1, rfl⟩ := e
    subst ev
    rw [Reps.bls r e1]
    cases (show v = .bl i from h)
    rfl
  | .non :: _, _, _, _, e => by simp [blsOf] at e
  | .int _ :: _, _, _, _, e => by simp [blsOf] at e
  | .str _ :: _, _, _, _, e => by simp [blsOf] at e
  | .tup _ :: _, _, _, _, e => by simp [blsOf] at e
  | .lst _ :: _, _, _, _, e => by simp [blsOf] at e
  | .scr _ :: _, _, _, _, e => by simp [blsOf] at e
  | .fn _ :: _, _, _, _, e => by simp [blsOf] at e
mutual
theorem Rep.dp (l : Le F G) : ∀ {d : D} {x : V} {p : PyData}, Rep K F d x → toPy d = some p → Dp K G x p
  | .non, _, _, h, e => by cases (show _ = V.non from h); simp [toPy] at e; subst e; exact .non
  | .bl b, _, _, h, e => by cases (show _ = V.bl b from h); simp [toPy] at e; subst e; exact .bl b
  | .int i, _, _, h, e => by cases (show _ = V.int i from h); simp [toPy] at e; subst e; exact .int i
  | .str s, _, _, h, e => by cases (show _ = V.str s from h); simp [toPy] at e; subst e; exact .str s
  | .tup ds, _, _, ⟨a, vs, ev, s, r⟩, e => by
    subst ev
    simp only [toPy, Option.map_eq_some_iff] at e
    obtain ⟨ps, e1, rfl⟩ := e
    exact .tup (l.sqT s) (Reps.dp l r e1)
  | .lst ds, _, _, ⟨a, vs, ev, s, r⟩, e => by
    subst ev
    simp only [toPy, Option.map_eq_some_iff] at e
    obtain ⟨ps, e1, rfl⟩ := e
    exact .lst (.of (l _ _ s)) (Reps.dp l r e1)
  | .scr _, _, _, _, e => by simp [toPy] at e
  | .fn _, _, _, h, _ => h.elim
theorem Reps.dp (l : Le F G) : ∀ {ds : List D} {vs : List V} {ps : List PyData}, Reps K F ds vs → toPys ds = some ps → DpAll K G vs ps
  | [], _, _, h, e => by cases h; simp [toPys] at e; subst e; exact .nil
  | d :: ds, _, _, ⟨v, vs, ev, h, r⟩, e => by
    subst ev
    simp only [toPys] at e
    cases e1 : toPy d with
    | none => rw [e1] at e; cases e
    | some p =>
      rw [e1] at e
      simp only [Option.map_eq_some_iff] at e
      obtain ⟨ps, e2, rfl⟩ := e
      exact .cons (Rep.dp l h e1) (Reps.dp l r e2)
end
end

/-! ### the state -/
/-- what may be changed (the cells' addresses, in order), what is guarded (objects that are not to change) -/
structure Fp where
  cs : List Addr
  P : Hp
def Fp.ext (μ : Fp) (ν : List Addr) : Fp := ⟨μ.cs ++ ν, μ.P⟩
def Fp.take (μ : Fp) (n : Nat) : Fp := ⟨μ.cs.take n, μ.P⟩
/-- the same cells first -/
def Fp.pre (μ μ' : Fp) : Prop := ∃ ν, μ'.cs = μ.cs ++ ν
theorem Fp.pre.refl (μ : Fp) : μ.pre μ := ⟨[], by simp⟩
theorem Fp.pre.trans {μ μ' μ'' : Fp} (a : μ.pre μ') (b : μ'.pre μ'') : μ.pre μ'' := by
  obtain ⟨x, e⟩ := a
  obtain ⟨y, e'⟩ := b
  exact ⟨x ++ y, by rw [e', e, List.append_assoc]⟩
theorem Fp.pre.get {μ μ' : Fp} (p : μ.pre μ') {i : Nat} {a : Addr} (h : μ.cs[i]? = some a) : μ'.cs[i]? = some a := by
  obtain ⟨ν, e⟩ := p
  rw [e, List.getElem?_append_left (List.getElem?_eq_some_iff.mp h).1]; exact h
def RepS (K : PySem.W.Frag) (F : Hp) (μ : Fp) : Sv → V → Prop
  | .p d, x => Rep K F d x
  | .c i, x => ∃ a, μ.cs[i]? = some a ∧ x = .ref a
theorem RepS.mono {K : PySem.W.Frag} {F G : Hp} {μ : Fp} (l : Le F G) : ∀ {v : Sv} {x : V}, RepS K F μ v x → RepS K G μ v x
  | .p _, _, h => Rep.mono l h
  | .c _, _, h => h
theorem RepS.pre {K : PySem.W.Frag} {F : Hp} {μ μ' : Fp} (p : μ.pre μ') : ∀ {v : Sv} {x : V}, RepS K F μ v x → RepS K F μ' v x
  | .p _, _, h => h
  | .c i, _, ⟨a, h, e⟩ => ⟨a, p.get h, e⟩
def RepSs (K : PySem.W.Frag) (F : Hp) (μ : Fp) : List Sv → List V → Prop
  | [], xs => xs = []
  | d :: ds, xs => ∃ v vs, xs = v :: vs ∧ RepS K F μ d v ∧ RepSs K F μ ds vs
theorem RepSs.mono {K : PySem.W.Frag} {F G : Hp} {μ : Fp} (l : Le F G) : ∀ {vs : List Sv} {xs : List V}, RepSs K F μ vs xs → RepSs K G μ vs xs
  | [], _, h => h
  | _ :: _, _, ⟨v, vs, e, h, r⟩ => ⟨v, vs, e, h.mono l, RepSs.mono l r⟩
theorem RepSs.length {K : PySem.W.Frag} {F : Hp} {μ : Fp} : ∀ {ds : List Sv} {vs : List V}, RepSs K F μ ds vs → vs.length = ds.length
  | [], _, h => by cases h; rfl
  | d :: ds, _, ⟨v, vs, e, h, r⟩ => by subst e; simp [RepSs.length r]
theorem RepSs.pures {K : PySem.W.Frag} {F : Hp} {μ : Fp} : ∀ {vs : List Sv} {xs : List V} {ds : List D}, RepSs K F μ vs xs → pures vs = some ds → Reps K F ds xs
  | [], _, _, h, e => by cases h; simp [DV.pures] at e; subst e; rfl
  | .p d :: vs, _, _, ⟨v, xs, ev, h, r⟩, e => by
    subst ev
    simp only [DV.pures, Option.map_eq_some_iff] at e
    obtain ⟨ds, e1, rfl⟩ := e
    exact Reps.cons h (RepSs.pures r e1)
  | .c _ :: _, _, _, _, e => by simp [DV.pures] at e

def CellIs (K : PySem.W.Frag) (F H : Hp) (a : Addr) : Cell → Prop
  | .lst ds => ∃ vs, H a = some (.lst vs) ∧ Reps K F ds vs
structure Mh (K : PySem.W.Frag) (H : Hp) (S : Store) (F : Hp) (μ : Fp) : Prop where
  sub : Le F H
  mlen : μ.cs.length = S.length
  cell : ∀ (i : Nat) (a : Addr) (c : Cell), μ.cs[i]? = some a → S[i]? = some c → CellIs K F H a c
  nd : μ.cs.Nodup
  off : ∀ a ∈ μ.cs, F a = none
  gd : Le μ.P H
  gf : ∀ a o, μ.P a = some o → F a = none ∧ a ∉ μ.cs
structure Ml (K : PySem.W.Frag) (σ : L2.St) (ρ : Loc) (F : Hp) (μ : Fp) : Prop where
  len : ρ.length = σ.length
  loc : ∀ (i : Nat) (v : Sv), ρ[i]? = some (some v) → ∃ x, σ[i]? = some (some x) ∧ RepS K F μ v x
section
variable {K : PySem.W.Frag} {H H' : Hp} {S : Store} {F G : Hp} {μ μ' : Fp} {σ : L2.St} {ρ : Loc}
theorem Ml.mono (m : Ml K σ ρ F μ) (l : Le F G) : Ml K σ ρ G μ := ⟨m.len, fun i v e => let ⟨x, e1, r⟩ := m.loc i v e; ⟨x, e1, r.mono l⟩⟩
theorem Ml.pre (m : Ml K σ ρ F μ) (p : μ.pre μ') : Ml K σ ρ F μ' := ⟨m.len, fun i v e => let ⟨x, e1, r⟩ := m.loc i v e; ⟨x, e1, r.pre p⟩⟩
theorem Ml.get (m : Ml K σ ρ F μ) {i : Nat} {v : Sv} (e : lget ρ i = some v) : ∃ x, σ[i]? = some (some x) ∧ RepS K F μ v x := by
  unfold lget at e
  split at e
  · rename_i w q; cases e; exact m.loc i _ q
  · cases e
theorem Ml.set (m : Ml K σ ρ F μ) {i : Nat} {v : Sv} {x : V} (r : RepS K F μ v x) : Ml K (σ.set i (some x)) (ρ.set i (some v)) F μ := by
  refine ⟨by simp [m.len], fun j w e => ?_⟩
  by_cases h : i = j
  · subst h
    have hl : i < ρ.length := by
      have := (List.getElem?_eq_some_iff.mp e).1
      simpa using this
    rw [List.getElem?_set_self hl] at e
    cases e
    exact ⟨x, by rw [List.getElem?_set_self (by rw [← m.len]; exact hl)], r⟩
  · rw [List.getElem?_set_ne h] at e ⊢
    exact m.loc j w e
theorem Ml.wipe (m : Ml K σ ρ F μ) : ∀ own : List Nat, Ml K (wipe σ own) (wipeρ ρ own) F μ
  | [] => m
  | v :: vs => by
    have ih := m.wipe vs
    refine ⟨by simp [L2.wipe, wipeρ, ih.len], fun j w e => ?_⟩
    unfold wipeρ at e
    unfold L2.wipe
    by_cases h : v = j
    · subst h
      by_cases hl : v < (wipeρ ρ vs).length
      · rw [List.getElem?_set_self hl] at e; cases e
      · rw [List.getElem?_eq_none (by simpa using hl)] at e; cases e
    · rw [List.getElem?_set_ne h] at e ⊢
      exact ih.loc j w e
theorem Mh.there (m : Mh K H S F μ) {a : Addr} (h : a ∈ μ.cs) : ∃ vs, H a = some (.lst vs) := by
  obtain ⟨i, hi⟩ := List.mem_iff_getElem?.mp h
  have hl : i < S.length := by rw [← m.mlen]; exact (List.getElem?_eq_some_iff.mp hi).1
  have q := m.cell i a _ hi (List.getElem?_eq_getElem hl)
  cases hc : S[i] with
  | lst ds => rw [hc] at q; obtain ⟨vs, q1, _⟩ := q; exact ⟨vs, q1⟩
theorem Mh.notin (m : Mh K H S F μ) {p : Addr} (h : H p = none) : p ∉ μ.cs := fun hp => by
  obtain ⟨vs, e⟩ := m.there hp
  rw [h] at e; cases e
theorem Mh.noneF (m : Mh K H S F μ) {p : Addr} (h : H p = none) : F p = none := by
  cases e : F p with
  | none => rfl
  | some u => rw [m.sub _ _ e] at h; cases h
theorem Mh.noneP (m : Mh K H S F μ) {p : Addr} (h : H p = none) : μ.P p = none := by
  cases e : μ.P p with
  | none => rfl
  | some u => rw [m.gd _ _ e] at h; cases h
theorem Mh.cellUp (m : Mh K H S F μ) {p : Addr} {o : HO} (h : H p = none) (l : Le F G) : ∀ (i : Nat) (a : Addr) (c : Cell), μ.cs[i]? = some a → S[i]? = some c → CellIs K G (upd H p o) a c := fun i a c e1 e2 => by
  have q := m.cell i a c e1 e2
  cases c with
  | lst ds =>
    obtain ⟨vs, q1, q2⟩ := q
    exact ⟨vs, by rw [upd_ne (ne_of_none q1 h)]; exact q1, q2.mono l⟩
theorem Mh.gdUp (m : Mh K H S F μ) {p : Addr} {o : HO} (h : H p = none) : Le μ.P (upd H p o) := fun a u e => by
  have := m.gd a u e
  rw [upd_ne (ne_of_none this h)]; exact this
/-- a new object, frozen -/
theorem Mh.new (m : Mh K H S F μ) {p : Addr} {o : HO} (h : H p = none) : Mh K (upd H p o) S (upd F p o) μ := by
  have hF := m.noneF h
  refine ⟨fun a u e => ?_, m.mlen, m.cellUp h (Le.upd hF), m.nd, fun a ha => ?_, m.gdUp h, fun a u e => ?_⟩
  · by_cases hp : a = p
    · subst hp; rw [upd_same] at e ⊢; exact e
    · rw [upd_ne hp] at e ⊢; exact m.sub a u e
  · have ne : a ≠ p := fun e => by rw [e] at ha; exact m.notin h ha
    rw [upd_ne ne]; exact m.off a ha
  · obtain ⟨g1, g2⟩ := m.gf a u e
    have ne : a ≠ p := fun z => by rw [z, m.noneP h] at e; cases e
    exact ⟨by rw [upd_ne ne]; exact g1, g2⟩
/-- a new object, not frozen -/
theorem Mh.grow (m : Mh K H S F μ) {p : Addr} {o : HO} (h : H p = none) : Mh K (upd H p o) S F μ :=
  ⟨fun a u e => by have := m.sub a u e; rw [upd_ne (ne_of_none this h)]; exact this, m.mlen, m.cellUp h (Le.refl F), m.nd, m.off, m.gdUp h, m.gf⟩
/-- what is new is frozen -/
theorem Mh.freeze (m : Mh K H S F μ) {p : Addr} {o : HO} (h : H p = some o) (hF : F p = none) (hp : p ∉ μ.cs) (hP : μ.P p = none) : Mh K H S (upd F p o) μ := by
  refine ⟨fun a u e => ?_, m.mlen, fun i a c e1 e2 => ?_, m.nd, fun a ha => ?_, m.gd, fun a u e => ?_⟩
  · by_cases hap : a = p
    · subst hap; rw [upd_same] at e; cases e; exact h
    · rw [upd_ne hap] at e; exact m.sub a u e
  · have q := m.cell i a c e1 e2
    cases c with
    | lst ds =>
      obtain ⟨vs, q1, q2⟩ := q
      exact ⟨vs, q1, q2.mono (Le.upd hF)⟩
  · have ne : a ≠ p := fun e => by rw [e] at ha; exact hp ha
    rw [upd_ne ne]; exact m.off a ha
  · obtain ⟨g1, g2⟩ := m.gf a u e
    have ne : a ≠ p := fun z => by rw [z, hP] at e; cases e
    exact ⟨by rw [upd_ne ne]; exact g1, g2⟩
/-- .. becomes a cell -/
theorem Mh.own (m : Mh K H S F μ) {p : Addr} {vs : List V} {ds : List D} (h : H p = some (.lst vs)) (hF : F p = none) (hp : p ∉ μ.cs) (hP : μ.P p = none) (r : Reps K F ds vs) : Mh K H (S ++ [.lst ds]) F (μ.ext [p]) := by
  refine ⟨m.sub, by simp [m.mlen, Fp.ext], fun i a c e1 e2 => ?_, ?_, fun a ha => ?_, m.gd, fun a u e => ?_⟩
  · unfold Fp.ext at e1
    by_cases hi : i < μ.cs.length
    · rw [List.getElem?_append_left hi] at e1
      rw [List.getElem?_append_left (by rw [← m.mlen]; exact hi)] at e2
      exact m.cell i a c e1 e2
    · have hi' : i = μ.cs.length := by
        have := (List.getElem?_eq_some_iff.mp e1).1
        simp at this; omega
      subst hi'
      rw [List.getElem?_append_right (Nat.le_refl _), Nat.sub_self] at e1
      rw [m.mlen, List.getElem?_append_right (Nat.le_refl _), Nat.sub_self] at e2
      simp at e1 e2
      subst e1; subst e2
      exact ⟨vs, h, r⟩
  · unfold Fp.ext
    rw [List.nodup_append]
    refine ⟨m.nd, by simp, fun a ha b hb => ?_⟩
    simp at hb
    subst hb
    exact fun e => by rw [e] at ha; exact hp ha
  · rcases List.mem_append.mp (show a ∈ μ.cs ++ [p] from ha) with ha | ha
    · exact m.off a ha
    · simp at ha; subst ha; exact hF
  · obtain ⟨g1, g2⟩ := m.gf a u e
    refine ⟨g1, fun ha => ?_⟩
    rcases List.mem_append.mp (show a ∈ μ.cs ++ [p] from ha) with ha | ha
    · exact g2 ha
    · simp at ha; subst ha; rw [show μ.P a = some u from e] at hP; cases hP
/-- a cell is changed -/
theorem Mh.put (m : Mh K H S F μ) {i : Nat} {p : Addr} {vs : List V} {ds : List D} (e : μ.cs[i]? = some p) (r : Reps K F ds vs) : Mh K (upd H p (.lst vs)) (S.set i (.lst ds)) F μ := by
  have hmem : p ∈ μ.cs := List.mem_iff_getElem?.mpr ⟨i, e⟩
  refine ⟨fun a u q => ?_, by simp [m.mlen], fun j a c e1 e2 => ?_, m.nd, m.off, fun a u q => ?_, m.gf⟩
  · have hp : F p = Option.none := m.off p hmem
    rw [upd_ne (ne_of_none q hp)]; exact m.sub a u q
  · by_cases h : i = j
    · subst h
      have hl : i < S.length := by rw [← m.mlen]; exact (List.getElem?_eq_some_iff.mp e).1
      rw [List.getElem?_set_self hl] at e2
      rw [e] at e1
      cases e1; cases e2
      exact ⟨vs, upd_same, r⟩
    · rw [List.getElem?_set_ne h] at e2
      have q := m.cell j a c e1 e2
      have hne : a ≠ p := fun z => by
        subst z
        obtain ⟨h1, g1⟩ := List.getElem?_eq_some_iff.mp e1
        obtain ⟨h2, g2⟩ := List.getElem?_eq_some_iff.mp e
        exact h ((List.getElem_inj m.nd).mp (g2.trans g1.symm))
      cases c with
      | lst ds' =>
        obtain ⟨ws, q1, q2⟩ := q
        exact ⟨ws, by rw [upd_ne hne]; exact q1, q2⟩
  · have ne : a ≠ p := fun z => by rw [z] at q; exact (m.gf p u q).2 hmem
    rw [upd_ne ne]; exact m.gd a u q
/-- the first cells -/
theorem Mh.cut (m : Mh K H S F μ) (n : Nat) : Mh K H (S.take n) F (μ.take n) := by
  refine ⟨m.sub, by simp [m.mlen, Fp.take], fun i a c e1 e2 => ?_, m.nd.sublist (List.take_sublist _ _), fun a ha => m.off a (List.mem_of_mem_take ha), m.gd, fun a u e => ⟨(m.gf a u e).1, fun ha => (m.gf a u e).2 (List.mem_of_mem_take ha)⟩⟩
  unfold Fp.take at e1
  have h1 : i < n := by
    by_cases h : i < n
    · exact h
    · rw [List.getElem?_eq_none (by simp; omega)] at e1; cases e1
  rw [List.getElem?_take_of_lt h1] at e1 e2
  exact m.cell i a c e1 e2
/-- guarded things: fewer of them, one more -/
theorem Mh.guard (m : Mh K H S F μ) {P : Hp} (g : Le P H) (h : ∀ a o, P a = some o → F a = none ∧ a ∉ μ.cs) : Mh K H S F ⟨μ.cs, P⟩ := ⟨m.sub, m.mlen, m.cell, m.nd, m.off, g, h⟩
end

/-- a value as it lies for an operation: a list may be a cell's -/
def RepH (K : PySem.W.Frag) (F H : Hp) (d : D) (x : V) : Prop :=
  match d with
  | .lst ds => ∃ a vs, x = .ref a ∧ H a = some (.lst vs) ∧ Reps K F ds vs
  | d => Rep K F d x
section
variable {K : PySem.W.Frag} {H : Hp} {S : Store} {F : Hp} {μ : Fp}
theorem Rep.h (l : Le F H) {d : D} {x : V} (r : Rep K F d x) : RepH K F H d x := by
  cases d with
  | lst ds => obtain ⟨a, vs, e, q, r⟩ := r; exact ⟨a, vs, e, l _ _ q, r⟩
  | _ => exact r
theorem der_rep (m : Mh K H S F μ) {v : Sv} {x : V} {d : D} (r : RepS K F μ v x) (e : der S v = some d) : RepH K F H d x := by
  cases v with
  | p d' => simp [der] at e; subst e; exact r.h m.sub
  | c i =>
    obtain ⟨a, h1, rfl⟩ := r
    cases q : S[i]? with
    | none => simp [der, q] at e
    | some c =>
      cases c with
      | lst xs =>
        simp [der, q] at e; subst e
        obtain ⟨vs, q1, q2⟩ := m.cell i a _ h1 q
        exact ⟨a, vs, rfl, q1, q2⟩
theorem RepH.dp (l : Le F H) {d : D} {x : V} {p : PyData} (r : RepH K F H d x) (e : toPy d = some p) : Dp K H x p := by
  cases d with
  | lst ds =>
    obtain ⟨a, vs, rfl, q, r⟩ := r
    simp only [toPy, Option.map_eq_some_iff] at e
    obtain ⟨ps, e1, rfl⟩ := e
    exact .lst (.of q) (Reps.dp l r e1)
  | non => exact Rep.dp l r e
  | bl _ => exact Rep.dp l r e
  | int _ => exact Rep.dp l r e
  | str _ => exact Rep.dp l r e
  | tup _ => exact Rep.dp l r e
  | scr _ => exact Rep.dp l r e
  | fn _ => exact Rep.dp l r e
theorem RepH.non_iff {d : D} {x : V} (r : RepH K F H d x) : decide (x = .non) = decide (d = .non) := by
  cases d with
  | non => cases (show x = .non from r); rfl
  | bl _ => cases (show x = .bl _ from r); rfl
  | int _ => cases (show x = .int _ from r); rfl
  | str _ => cases (show x = .str _ from r); rfl
  | tup _ => obtain ⟨a, vs, rfl, _⟩ := r; rfl
  | lst _ => obtain ⟨a, vs, rfl, _⟩ := r; rfl
  | scr _ => obtain ⟨a, rfl, _⟩ := r; rfl
  | fn _ => exact (show False from r).elim
end

/-! ### what is wanted behind an evaluation -/
/-- a value that may be new: a list that nobody else knows -/
def RepF (K : PySem.W.Frag) (μ : Fp) (F H : Hp) (v : Sv) (x : V) : Prop :=
  match v with
  | .p (.lst ds) => ∃ a vs, x = .ref a ∧ H a = some (.lst vs) ∧ F a = none ∧ a ∉ μ.cs ∧ μ.P a = none ∧ Reps K F ds vs
  | v => RepS K F μ v x
/-- the exception as it lies -/
def XcIs (mg : Str → Option Value) (F : Hp) (e : Xc) (cls : Value) (d : Option Addr) : Prop :=
  mg e.cls = some cls ∧ match e.arg with
    | none => d = none
    | some n => ∃ a v, d = some a ∧ F a = some (.xd [("limit", v)]) ∧ (match n with | .int i => v = .int i | _ => False)
theorem XcIs.mono {mg : Str → Option Value} {F G : Hp} (l : Le F G) {e : Xc} {cls : Value} {d : Option Addr} (h : XcIs mg F e cls d) : XcIs mg G e cls d := by
  obtain ⟨h1, h2⟩ := h
  refine ⟨h1, ?_⟩
  revert h2
  cases e.arg with
  | none => exact id
  | some n => exact fun ⟨a, v, e1, e2, e3⟩ => ⟨a, v, e1, l _ _ e2, e3⟩
/-- r's end: Rp: how its value lies; E: what is wanted of an exception -/
def End (K : PySem.W.Frag) (mg : Str → Option Value) (E : XK) (μ : Fp) {α β : Type} (Rp : Hp → Hp → α → β → Prop) (F : Hp) (r : R α) (Q : β → Hp → Prop) : Prop :=
  match r with
  | .ok a S' => ∀ b H' F', Le F F' → Mh K H' S' F' μ → Rp F' H' a b → Q b H'
  | .exc e S' => ∀ H' F' cls d, Le F F' → Mh K H' S' F' μ → XcIs mg F' e cls d → E cls d H'
  | .bad => False
section
variable {K : PySem.W.Frag} {mg : Str → Option Value} {E : XK} {μ : Fp} {α β γ δ : Type} {RpA : Hp → Hp → α → β → Prop} {RpC : Hp → Hp → γ → δ → Prop} {F G : Hp}
theorem End.mono {r : R α} {Q : β → Hp → Prop} (h : End K mg E μ RpA F r Q) (l : Le F G) : End K mg E μ RpA G r Q := by
  cases r with
  | ok a S => exact fun b H' F' l' m rp => h b H' F' (l.trans l') m rp
  | exc e S => exact fun H' F' cls d l' m x => h H' F' cls d (l.trans l') m x
  | bad => exact h
/-- the first of two -/
theorem End.split {r : R α} {f : α → Store → R γ} {Q : δ → Hp → Prop} {Q' : β → Hp → Prop} (h : End K mg E μ RpC F (r.bind f) Q)
    (k : ∀ a S' b H' F', r = .ok a S' → Le F F' → Mh K H' S' F' μ → RpA F' H' a b → End K mg E μ RpC F' (f a S') Q → Q' b H') : End K mg E μ RpA F r Q' := by
  cases r with
  | ok a S => exact fun b H' F' l m rp => k a S b H' F' rfl l m rp (h.mono l)
  | exc e S => exact h
  | bad => exact h
/-- another end of the same -/
theorem End.imp {r : R α} {RpA' : Hp → Hp → α → δ → Prop} {Q : β → Hp → Prop} {Q' : δ → Hp → Prop} (h : End K mg E μ RpA F r Q)
    (k : ∀ a S' b H' F', r = .ok a S' → Le F F' → Mh K H' S' F' μ → RpA' F' H' a b → (∀ b' H'' F'', Le F' F'' → Mh K H'' S' F'' μ → RpA F'' H'' a b' → Q b' H'') → Q' b H') : End K mg E μ RpA' F r Q' := by
  cases r with
  | ok a S => exact fun b H' F' l m rp => k a S b H' F' rfl l m rp fun b' H'' F'' l' m' rp' => h b' H'' F'' (l.trans l') m' rp'
  | exc e S => exact h
  | bad => exact h
abbrev RpE (K : PySem.W.Frag) (μ : Fp) : Hp → Hp → Sv → V → Prop := fun F _ v x => RepS K F μ v x
abbrev RpF (K : PySem.W.Frag) (μ : Fp) : Hp → Hp → Sv → V → Prop := fun F H v x => RepF K μ F H v x
abbrev RpT : Hp → Hp → Bool → Bool → Prop := fun _ _ a b => a = b
abbrev RpL (K : PySem.W.Frag) (μ : Fp) : Hp → Hp → List Sv → List V → Prop := fun F _ v x => RepSs K F μ v x
abbrev RpO : Hp → Hp → Option Int → Option Int → Prop := fun _ _ a b => a = b
/-- frozen, if it was new -/
theorem End.freeze {r : R Sv} {Q : V → Hp → Prop} (h : End K mg E μ (RpE K μ) F r Q) : End K mg E μ (RpF K μ) F r Q := by
  cases r with
  | ok v S =>
    intro b H' F' l m rp
    cases v with
    | c i => exact h b H' F' l m rp
    | p d =>
      cases d with
      | lst ds =>
        obtain ⟨a, vs, rfl, q1, q2, q3, q5, q4⟩ := rp
        exact h _ H' (upd F' a (.lst vs)) (l.trans (Le.upd q2)) (m.freeze q1 q2 q3 q5) ⟨a, vs, rfl, upd_same, q4.mono (Le.upd q2)⟩
      | _ => exact h b H' F' l m rp
  | exc e S => exact h
  | bad => exact h
end
end DV

set_option Elab.async false
set_option linter.all false
set_option maxRecDepth 100000
set_option maxHeartbeats 4000000
/-! DV3: operators, comparisons, built-ins. -/
namespace DV
open PySem PySem.Spec PyProof.Rows L2
theorem tuple_mul1 (l : Addr) (items : Array Value) (n : Nat) (dd : Option Addr) (sl : Array (Option Value)) (x : Int) (u : Tok) (c0 : (decide (x < -(2 ^ 63)) || decide (x ≥ 2 ^ 63)) = false) (c1 : (items.isEmpty || x == 1) = true) :
    Meets (Builtin.«tuple.__mul__» ⟨[.ref l, .int x u], []⟩) (fun _ R s => s.heap.get? l = some { cls := .type "tuple", dict := dd, data := .seq items n, slots := sl } ∧ R (.ok (.ret (Value.ref l))) s) :=
  .of_wp fun prog w A R s h => by
    obtain ⟨hp, g, d, tk, os⟩ := s
    obtain ⟨hl, h⟩ := h
    have f1 := AutoSeq1.idx_int
    wp_walk using wpAny_loadPart' hl
    repeat (first
      | (refine wpAny_ite_false (decide_eq_false (by rw [c0]; exact Bool.false_ne_true)) ?_; wp_walk using wpAny_loadPart' hl)
      | (refine wpAny_ite_true (decide_eq_true c1) ?_; wp_walk using wpAny_loadPart' hl))
    exact ⟨_, rfl, h⟩
theorem tuple_mul0 (l : Addr) (items : Array Value) (n : Nat) (dd : Option Addr) (sl : Array (Option Value)) (x : Int) (u : Tok) (c0 : (decide (x < -(2 ^ 63)) || decide (x ≥ 2 ^ 63)) = false) (c1 : (items.isEmpty || x == 1) = false) (c2 : (decide (x ≤ 0) || items.isEmpty) = true) :
    Meets (Builtin.«tuple.__mul__» ⟨[.ref l, .int x u], []⟩) (fun _ R s => s.heap.get? l = some { cls := .type "tuple", dict := dd, data := .seq items n, slots := sl } ∧
      R (.ok (.ret (Value.ref s.heap.objs.size))) { s with heap := s.heap.push { cls := Value.type "tuple", data := Data.seq #[] }, toks := s.toks }) :=
  .of_wp fun prog w A R s h => by
    obtain ⟨hp, g, d, tk, os⟩ := s
    obtain ⟨hl, h⟩ := h
    have f1 := AutoSeq1.idx_int
    wp_walk using wpAny_loadPart' hl
    repeat (first
      | (refine wpAny_ite_false (decide_eq_false (by rw [c0]; exact Bool.false_ne_true)) ?_; wp_walk using wpAny_loadPart' hl)
      | (refine wpAny_ite_false (decide_eq_false (by rw [c1]; exact Bool.false_ne_true)) ?_; wp_walk using wpAny_loadPart' hl)
      | (refine wpAny_ite_true (decide_eq_true c2) ?_; wp_walk using wpAny_loadPart' hl))
    exact ⟨_, rfl, h⟩
def rRepA (K : PySem.W.Frag) : R2 := fun x y H Q => ∃ l k xs, x = .ref l ∧ y = .int k ∧ SqT K H l xs ∧ -(2 ^ 63) ≤ k ∧ k < 2 ^ 63 ∧ (k ≤ 1 ∨ xs = []) ∧
  (if xs = [] ∨ k = 1 then Q (.ref l) H else ∀ p, H p = none → Q (.ref p) (upd H p (.tup [])))
theorem op_repA {X : Cx} : OpR X (binaryOp .Mult) (rRepA X.K) := by
  intro pins s σ H x y v u Q I rx ry h
  obtain ⟨l, k, xs, rfl, rfl, hT, h1, h2, h3, q⟩ := h
  cases rx
  obtain ⟨t, rfl⟩ := ry
  obtain ⟨its, r, ⟨⟨cls, dd, data, sl⟩, ho, hc, n, hd⟩, hs⟩ := I.tuple hT
  simp only at hc hd
  subst hc hd
  have hle : its.length = xs.length := r.length.symm
  have c0 : (decide (k < -(2 ^ 63)) || decide (k ≥ 2 ^ 63)) = false := by
    rw [decide_eq_false (by omega), decide_eq_false (by omega)] <;> rfl
  by_cases hx : xs = [] ∨ k = 1
  · rw [if_pos hx] at q
    have c1 : (its.toArray.isEmpty || k == 1) = true := by
      rcases hx with rfl | rfl
      · have : its = [] := List.eq_nil_of_length_eq_zero (by simpa using hle)
        subst this; rfl
      · simp
    refine wpAny_binaryOp_repeat_ref (T := "tuple") (U := "int") (by decide) ⟨_, ho, rfl⟩ (fun s' => typeIs_int s' k t) noFill_tuple_mul F.fills_int_mul F.slot_int_rmul repeat_tuple F.slot_int_index.lookup
      (call_meets F.slot_int_rmul (typeIs_int s k t) F.entry_int_rmul (F.args_int_rmul_2 _ _) (int_rmul_tuple k t l its.toArray n dd sl)
        ⟨ho, rfl, ⟨_, ho, rfl⟩, call_meets F.slot_tuple_mul ⟨_, ho, rfl⟩ F.entry_tuple_mul (F.args_tuple_mul_2 _ _) (tuple_mul1 l its.toArray n dd sl k t c0 c1) ⟨ho, ?_⟩⟩)
    exact ⟨.ref l, _, I, rfl, q⟩
  · rw [if_neg hx] at q
    have hx1 : xs ≠ [] := fun z => hx (.inl z)
    have hx2 : k ≠ 1 := fun z => hx (.inr z)
    have hi : its.toArray.isEmpty = false := by
      cases its with
      | nil => exact absurd (List.eq_nil_of_length_eq_zero (by simpa using hle.symm)) hx1
      | cons a b => rfl
    have c1 : (its.toArray.isEmpty || k == 1) = false := by
      rw [hi, Bool.false_or]
      exact beq_eq_false_iff_ne.mpr hx2
    have c2 : (decide (k ≤ 0) || its.toArray.isEmpty) = true := by
      have : k ≤ 1 := h3.resolve_right hx1
      rw [decide_eq_true (by omega)]; rfl
    refine wpAny_binaryOp_repeat_ref (T := "tuple") (U := "int") (by decide) ⟨_, ho, rfl⟩ (fun s' => typeIs_int s' k t) noFill_tuple_mul F.fills_int_mul F.slot_int_rmul repeat_tuple F.slot_int_index.lookup
      (call_meets F.slot_int_rmul (typeIs_int s k t) F.entry_int_rmul (F.args_int_rmul_2 _ _) (int_rmul_tuple k t l its.toArray n dd sl)
        ⟨ho, rfl, ⟨_, ho, rfl⟩, call_meets F.slot_tuple_mul ⟨_, ho, rfl⟩ F.entry_tuple_mul (F.args_tuple_mul_2 _ _) (tuple_mul0 l its.toArray n dd sl k t c0 c1 c2) ⟨ho, ?_⟩⟩)
    refine ⟨.ref s.heap.objs.size, _, I.laid (t' := s.toks) (o := .tup []) (fun b ob q => Heap.get?_push_of_some _ q) (Nat.le_refl _) ?_, rfl, q _ (I.hok.fresh (Nat.le_refl _))⟩
    exact ⟨Nat.zero_le _, [], .nil, IsTup.new _ _⟩

/-- what is wanted behind an operation that hands back d -/
def K1 (K : PySem.W.Frag) (F : Hp) (μ : Fp) (S : Store) (d : D) (Q : VK) : Prop := ∀ b H' F', Le F F' → Mh K H' S F' μ → RepF K μ F' H' (.p d) b → Q b H'
section
variable {K : PySem.W.Frag} {F : Hp} {μ : Fp} {S : Store} {Q : VK} {H : Hp}
theorem K1.int {i : Int} (k : K1 K F μ S (.int i) Q) (m : Mh K H S F μ) : Q (.int i) H := k _ H F (Le.refl F) m rfl
theorem K1.bl {i : Bool} (k : K1 K F μ S (.bl i) Q) (m : Mh K H S F μ) : Q (.bl i) H := k _ H F (Le.refl F) m rfl
theorem K1.str {i : Str} (k : K1 K F μ S (.str i) Q) (m : Mh K H S F μ) : Q (.str i) H := k _ H F (Le.refl F) m rfl
theorem K1.lst {ds : List D} {vs : List V} (k : K1 K F μ S (.lst ds) Q) (m : Mh K H S F μ) (r : Reps K F ds vs) : ∀ p, H p = none → Q (.ref p) (upd H p (.lst vs)) :=
  fun p hp => k _ _ F (Le.refl F) (m.grow hp) ⟨p, vs, rfl, upd_same, m.noneF hp, m.notin hp, m.noneP hp, r⟩
theorem K1.tup {ds : List D} {vs : List V} (k : K1 K F μ S (.tup ds) Q) (m : Mh K H S F μ) (r : Reps K F ds vs) : ∀ p, H p = none → Q (.ref p) (upd H p (.tup vs)) :=
  fun p hp => k _ _ (upd F p (.tup vs)) (Le.upd (m.noneF hp)) (m.new hp) ⟨p, vs, rfl, .of upd_same, r.mono (Le.upd (m.noneF hp))⟩
/-- the same value: what is no list -/
theorem RepF.of_rep {d : D} {x : V} (r : Rep K F d x) (h : ∀ ds, d ≠ .lst ds) : RepF K μ F H (.p d) x := by
  cases d with
  | lst ds => exact absurd rfl (h ds)
  | _ => exact r
end

theorem two64 : (2 : Int) ^ 64 = 18446744073709551616 := by decide
theorem smallI.ok {i j : Int} (h : smallI i) : IntMulOk i j := .of_left (intBits_le_64 h.1 h.2)
theorem smallI.ok' {i j : Int} (h : smallI j) : IntMulOk i j := .of_right (intBits_le_64 h.1 h.2)
theorem mulOK.ok {i j : Int} (h : mulOK i j) : IntMulOk i j := by
  rcases h with h | h | h
  · exact h.ok
  · exact h.ok'
  · exact CMulW.ok h

section
variable {X : Cx}
theorem op_mulG : OpR X (binaryOp .Mult) (rI mulOK fun i j => .int (i * j)) := opI fun _ _ _ _ _ _ _ hc q => mul_int q (mulOK.ok hc)
theorem op_fdivG : OpR X (binaryOp .FloorDiv) (rI (fun _ j => divOK j) fun i j => .int (i.fdiv j)) := opI fun _ _ _ _ _ _ _ hc q => floordiv_int hc.1 q (.inl (PyProof.noPylong_of_log2 hc.2))
theorem op_modG : OpR X (binaryOp .Mod) (rI (fun _ j => j ≠ 0) fun i j => .int (i.fmod j)) := op_modN
theorem op_powG : OpR X (binaryOp .Pow) (rI powOK fun i j => .int (i ^ j.toNat)) := op_pow

def rBin (K : PySem.W.Frag) (op : Operator) : R2 := fun x y H Q => ∃ F μ S d e r, Mh K H S F μ ∧ RepH K F H d x ∧ RepH K F H e y ∧ binD op d e = some r ∧ K1 K F μ S r Q
theorem bin_ok (op : Operator) : OpR X (binaryOp op) (rBin X.K op) := by
  intro pins s σ H x y v u Q I rx ry h
  obtain ⟨F, μ, S, d, e, r, m, hd, he, hb, k⟩ := h
  unfold binD at hb
  split at hb
  · rename_i i j
    cases hb
    cases (show x = .int i from hd); cases (show y = .int j from he)
    exact op_add pins s σ H _ _ v u Q I rx ry ⟨i, j, rfl, rfl, k.int m⟩
  · rename_i i j
    cases hb
    cases (show x = .int i from hd); cases (show y = .int j from he)
    exact op_sub pins s σ H _ _ v u Q I rx ry ⟨i, j, rfl, rfl, k.int m⟩
  · rename_i i j
    split at hb
    · rename_i hc
      cases hb
      cases (show x = .int i from hd); cases (show y = .int j from he)
      exact op_mulG pins s σ H _ _ v u Q I rx ry ⟨i, j, rfl, rfl, hc, k.int m⟩
    · cases hb
  · rename_i i j
    split at hb
    · rename_i hc
      cases hb
      cases (show x = .int i from hd); cases (show y = .int j from he)
      exact op_fdivG pins s σ H _ _ v u Q I rx ry ⟨i, j, rfl, rfl, hc, k.int m⟩
    · cases hb
  · rename_i i j
    split at hb
    · rename_i hc
      cases hb
      cases (show x = .int i from hd); cases (show y = .int j from he)
      exact op_modG pins s σ H _ _ v u Q I rx ry ⟨i, j, rfl, rfl, hc, k.int m⟩
    · cases hb
  · rename_i i j
    split at hb
    · rename_i hc
      cases hb
      cases (show x = .int i from hd); cases (show y = .int j from he)
      exact op_powG pins s σ H _ _ v u Q I rx ry ⟨i, j, rfl, rfl, hc, k.int m⟩
    · cases hb
  · rename_i i j
    split at hb
    · rename_i hc
      cases hb
      cases (show x = .str i from hd); cases (show y = .str j from he)
      exact op_add_str pins s σ H _ _ v u Q I rx ry ⟨i, j, rfl, rfl, hc, k.str m⟩
    · cases hb
  · rename_i xs ys
    split at hb
    · rename_i hc
      cases hb
      obtain ⟨a, vs, rfl, h1, r1⟩ := hd
      obtain ⟨b, ws, rfl, h2, r2⟩ := he
      exact op_cat pins s σ H _ _ v u Q I rx ry ⟨a, b, vs, ws, rfl, rfl, h1, h2, by rw [r1.length, r2.length]; exact hc, k.lst m (r1.append r2)⟩
    · cases hb
  · rename_i xs ys
    split at hb
    · rename_i hc
      cases hb
      obtain ⟨a, vs, rfl, h1, r1⟩ := hd
      obtain ⟨b, ws, rfl, h2, r2⟩ := he
      refine op_catA pins s σ H _ _ v u Q I rx ry ⟨a, b, vs, ws, rfl, rfl, m.sub.sqT h1, m.sub.sqT h2, by rw [r1.length, r2.length]; exact hc, fun e => ?_, fun _ e => ?_, fun _ _ => k.tup m (r1.append r2)⟩
      · have : xs = [] := by
          have := r1.length; rw [e] at this; exact List.length_eq_zero_iff.mp this.symm
        subst this
        exact k _ H F (Le.refl F) m ⟨b, ws, rfl, h2, r2⟩
      · have : ys = [] := by
          have := r2.length; rw [e] at this; exact List.length_eq_zero_iff.mp this.symm
        subst this
        exact k _ H F (Le.refl F) m ⟨a, vs, rfl, h1, by rw [List.append_nil]; exact r1⟩
    · cases hb
  · rename_i xs j
    split at hb
    · rename_i hc
      cases hb
      obtain ⟨a, vs, rfl, h1, r1⟩ := hd
      cases (show y = .int j from he)
      exact op_rep pins s σ H _ _ v u Q I rx ry ⟨a, j, vs, rfl, rfl, h1, hc.1, hc.2.1, by rw [r1.length]; exact hc.2.2, k.lst m (r1.rep _)⟩
    · cases hb
  · rename_i xs j
    split at hb
    · rename_i hc
      cases hb
      obtain ⟨a, vs, rfl, h1, r1⟩ := hd
      cases (show y = .int j from he)
      refine op_repT pins s σ H _ _ v u Q I rx ry ⟨a, j, vs, rfl, rfl, m.sub.sqT h1, fun e => ?_, hc.2.1, hc.2.2.1, by rw [r1.length]; exact hc.2.2.2, k.tup m (r1.rep _)⟩
      have := r1.length
      rw [e] at this
      exact hc.1 (List.length_eq_zero_iff.mp this.symm)
    · split at hb
      · rename_i hc
        cases hb
        obtain ⟨a, vs, rfl, h1, r1⟩ := hd
        cases (show y = .int j from he)
        have hl := r1.length
        have e0 : ∀ vs' : List V, vs'.length = xs.length → (vs' = [] ↔ xs = []) := fun vs' h => by
          constructor <;> (intro z; subst z; simp at h)
          · exact List.length_eq_zero_iff.mp h.symm
          · exact h
        refine op_repA pins s σ H _ _ v u Q I rx ry ⟨a, j, vs, rfl, rfl, m.sub.sqT h1, hc.1, hc.2.1, ?_, ?_⟩
        · rcases hc.2.2 with h | h
          · exact .inl h
          · exact .inr ((e0 vs hl).mpr h)
        · by_cases hv : vs = [] ∨ j = 1
          · rw [if_pos hv]
            refine k _ H F (Le.refl F) m ⟨a, vs, rfl, h1, ?_⟩
            rcases hv with hv | rfl
            · have := (e0 vs hl).mp hv
              subst this; subst hv
              simp
              exact rfl
            · simpa using r1
          · rw [if_neg hv]
            have hj : j.toNat = 0 := by
              have h1 : xs ≠ [] := fun z => hv (.inl ((e0 vs hl).mpr z))
              have := hc.2.2.resolve_right h1
              have : j ≠ 1 := fun z => hv (.inr z)
              omega
            rw [hj] at k
            exact k.tup m (ds := []) rfl
      · cases hb
  · cases hb

/-! ### comparisons -/
theorem op_inTup (hu : X.A.units + 65 < cLine) : OpR X (compareOp .In) (fun x y H Q => ∃ d ds, Dp X.K H x d ∧ Dp X.K H y (.tuple ds) ∧ SeqAt.shaped d = true ∧ SeqAt.shaped (.tuple ds) = true ∧ Q (.bl (ds.any fun z => PyData.eqv z d)) H) := by
  intro pins s σ H x y v u Q I rx ry h
  obtain ⟨d, ds, hd, he, sd, se, q⟩ := h
  obtain ⟨as, r1⟩ := Dp.reads I d x v hd rx
  obtain ⟨bs, r2⟩ := Dp.reads I (.tuple ds) y u he ry
  exact SeqAt.in_tuple_reads r2 r1 (SeqAt.canLay_of_shaped se) (SeqAt.canLay_of_shaped sd) (room_in_shaped sd hu) ⟨.bl _, H, I, rfl, q⟩
theorem op_notInTup (hu : X.A.units + 65 < cLine) : OpR X (compareOp .NotIn) (fun x y H Q => ∃ d ds, Dp X.K H x d ∧ Dp X.K H y (.tuple ds) ∧ SeqAt.shaped d = true ∧ SeqAt.shaped (.tuple ds) = true ∧ Q (.bl (!ds.any fun z => PyData.eqv z d)) H) := by
  intro pins s σ H x y v u Q I rx ry h
  obtain ⟨d, ds, hd, he, sd, se, q⟩ := h
  obtain ⟨as, r1⟩ := Dp.reads I d x v hd rx
  obtain ⟨bs, r2⟩ := Dp.reads I (.tuple ds) y u he ry
  exact SeqAt.notIn_tuple_reads r2 r1 (SeqAt.canLay_of_shaped se) (SeqAt.canLay_of_shaped sd) (room_in_shaped sd hu) ⟨.bl _, H, I, rfl, q⟩

def rCmp (K : PySem.W.Frag) (op : CmpOp) : R2 := fun x y H Q => ∃ F μ S d e r, Mh K H S F μ ∧ RepH K F H d x ∧ RepH K F H e y ∧ cmpD op d e = some r ∧ Q (.bl r) H
theorem eqD_inv {d e : D} {r : Bool} (h : eqD d e = some r) : ∃ a b, toPy d = some a ∧ toPy e = some b ∧ SeqAt.shaped a = true ∧ SeqAt.shaped b = true ∧ r = PyData.eqv a b := by
  unfold eqD at h
  split at h
  · rename_i a b h1 h2
    split at h
    · rename_i hc
      cases h
      exact ⟨a, b, h1, h2, hc.1, hc.2, rfl⟩
    · cases h
  · cases h
theorem in_ok (hu : X.A.units + 65 < cLine) {neg : Bool} {op : CmpOp} (ho : op = if neg then .NotIn else .In) {pins : List (Addr × Obj)} {s : Shared} {σ : L2.St} {H : Hp} {x y : V} {v u : Value} {Q : VK} (I : Inv X pins σ H s) (rx : RelV x v) (ry : RelV y u)
    {F : Hp} {μ : Fp} {S : Store} {d e : D} {r : Bool} (m : Mh X.K H S F μ) (hd : RepH X.K F H d x) (he : RepH X.K F H e y) (h : isIn d e = some r) (q : Q (.bl (if neg then !r else r)) H) : wpAny (model X.prog X.w) X.A (compareOp op v u) (EP X pins σ Q) X.xe s := by
  unfold isIn at h
  split at h
  · rename_i a xs e1
    split at h
    · rename_i ps e2
      split at h
      · rename_i hc
        cases h
        have k1 := hd.dp m.sub e1
        have k2 : Dp X.K H y (.list ps) := he.dp m.sub (by simp [toPy, e2])
        cases neg with
        | true =>
          simp only [if_true] at ho q
          subst ho
          exact op_notInD hu pins s σ H x y v u Q I rx ry ⟨a, ps, k1, k2, hc.1, hc.2, q⟩
        | false =>
          simp only [Bool.false_eq_true, if_false] at ho q
          subst ho
          exact op_inD hu pins s σ H x y v u Q I rx ry ⟨a, ps, k1, k2, hc.1, hc.2, q⟩
      · cases h
    · cases h
  · rename_i a xs e1
    split at h
    · rename_i ps e2
      split at h
      · rename_i hc
        cases h
        have k1 := hd.dp m.sub e1
        have k2 : Dp X.K H y (.tuple ps) := he.dp m.sub (by simp [toPy, e2])
        cases neg with
        | true =>
          simp only [if_true] at ho q
          subst ho
          exact op_notInTup hu pins s σ H x y v u Q I rx ry ⟨a, ps, k1, k2, hc.1, hc.2, q⟩
        | false =>
          simp only [Bool.false_eq_true, if_false] at ho q
          subst ho
          exact op_inTup hu pins s σ H x y v u Q I rx ry ⟨a, ps, k1, k2, hc.1, hc.2, q⟩
      · cases h
    · cases h
  · cases h
theorem cmp_ok (hu : X.A.units + 65 < cLine) (op : CmpOp) : OpR X (compareOp op) (rCmp X.K op) := by
  intro pins s σ H x y v u Q I rx ry h
  obtain ⟨F, μ, S, d, e, r, m, hd, he, hb, q⟩ := h
  unfold cmpD at hb
  split at hb
  · obtain ⟨a, b, e1, e2, s1, s2, rfl⟩ := eqD_inv hb
    exact op_eqD (by omega) pins s σ H x y v u Q I rx ry ⟨a, b, hd.dp m.sub e1, he.dp m.sub e2, s1, s2, q⟩
  · simp only [Option.map_eq_some_iff] at hb
    obtain ⟨r', hb, rfl⟩ := hb
    obtain ⟨a, b, e1, e2, s1, s2, rfl⟩ := eqD_inv hb
    exact op_neD (by omega) pins s σ H x y v u Q I rx ry ⟨a, b, hd.dp m.sub e1, he.dp m.sub e2, s1, s2, q⟩
  · rename_i i j
    cases hb
    cases (show x = .int i from hd); cases (show y = .int j from he)
    exact op_lt pins s σ H _ _ v u Q I rx ry ⟨i, j, rfl, rfl, q⟩
  · rename_i i j
    cases hb
    cases (show x = .int i from hd); cases (show y = .int j from he)
    exact op_le pins s σ H _ _ v u Q I rx ry ⟨i, j, rfl, rfl, q⟩
  · rename_i i j
    cases hb
    cases (show x = .int i from hd); cases (show y = .int j from he)
    exact op_gt pins s σ H _ _ v u Q I rx ry ⟨i, j, rfl, rfl, q⟩
  · rename_i i j
    cases hb
    cases (show x = .int i from hd); cases (show y = .int j from he)
    exact op_ge pins s σ H _ _ v u Q I rx ry ⟨i, j, rfl, rfl, q⟩
  · rename_i xs ys
    split at hb
    · rename_i ns ms e1 e2
      cases hb
      obtain ⟨a, vs, rfl, h1, r1⟩ := hd
      obtain ⟨b, ws, rfl, h2, r2⟩ := he
      have g1 := r1.ints e1
      have g2 := r2.ints e2
      subst g1; subst g2
      exact op_ltT (by omega) pins s σ H _ _ v u Q I rx ry ⟨a, b, ns, ms, rfl, rfl, m.sub.sqT h1, m.sub.sqT h2, q⟩
    · cases hb
  · cases hb
    cases (show y = .non from he)
    exact op_isN pins s σ H _ _ v u Q I rx ry ⟨rfl, by rw [hd.non_iff]; exact q⟩
  · cases hb
    cases (show y = .non from he)
    exact op_notN pins s σ H _ _ v u Q I rx ry ⟨rfl, by rw [hd.non_iff]; exact q⟩
  · rename_i i j
    cases hb
    cases (show x = .bl i from hd); cases (show y = .bl j from he)
    exact op_isBl pins s σ H _ _ v u Q I rx ry ⟨i, j, rfl, rfl, q⟩
  · rename_i i j
    cases hb
    cases (show x = .bl i from hd); cases (show y = .bl j from he)
    exact op_notBl pins s σ H _ _ v u Q I rx ry ⟨i, j, rfl, rfl, q⟩
  · exact in_ok (neg := false) hu rfl I rx ry m hd he hb q
  · simp only [Option.map_eq_some_iff] at hb
    obtain ⟨r', hb, rfl⟩ := hb
    exact in_ok (neg := true) hu rfl I rx ry m hd he hb q
  · cases hb

/-! ### truth -/
theorem tru_of {K : PySem.W.Frag} {F H : Hp} {μ : Fp} {S : Store} {d : D} {x : V} {k : Bool} (m : Mh K H S F μ) (r : RepH K F H d x) (h : truD d = some k) : TruV K x H k := by
  cases d with
  | non => cases (show x = .non from r); simp [truD] at h; exact h
  | bl b => cases (show x = .bl b from r); simp [truD] at h; exact h.symm
  | int i => cases (show x = .int i from r); simp [truD] at h; exact h.symm
  | str z =>
    cases (show x = .str z from r)
    simp only [truD] at h
    split at h
    · rename_i hc; cases h; exact ⟨hc, rfl⟩
    · cases h
  | tup ds =>
    obtain ⟨a, vs, rfl, q, r⟩ := r
    have h' : k = !ds.isEmpty := (Option.some.inj h).symm
    refine .inr (.inl ⟨vs, m.sub.sqT q, ?_⟩)
    subst h'
    have := r.length
    cases ds <;> cases vs <;> simp_all
  | lst ds =>
    obtain ⟨a, vs, rfl, q, r⟩ := r
    have h' : k = !ds.isEmpty := (Option.some.inj h).symm
    refine .inl ⟨vs, .of q, ?_⟩
    subst h'
    have := r.length
    cases ds <;> cases vs <;> simp_all
  | scr _ => simp [truD] at h
  | fn _ => simp [truD] at h

/-! ### items, slices -/
theorem atI_rep {K : PySem.W.Frag} {F : Hp} {ds : List D} {vs : List V} {i : Int} {d : D} (r : Reps K F ds vs) (h : L2.atI ds i = some d) : ∃ v, L2.atI vs i = some v ∧ Rep K F d v := by
  unfold L2.atI at h ⊢
  rw [r.length]
  cases e : ixN ds.length i with
  | none => rw [e] at h; cases h
  | some j =>
    rw [e] at h
    exact r.get (show ds[j]? = some d from h)
def rIxD (K : PySem.W.Frag) : R2 := fun x y H Q => ∃ F μ S d e r, Mh K H S F μ ∧ RepH K F H d x ∧ Rep K F e y ∧ ixD d e = some r ∧ ∀ b, Rep K F r b → Q b H
theorem ix_ok : IxR X (rIxD X.K) := by
  intro value slice pins s σ H x y v u Q I rx ry h hs
  obtain ⟨F, μ, S, d, e, r, m, hd, he, hb, k⟩ := h
  unfold ixD at hb
  split at hb
  · rename_i xs i
    obtain ⟨a, vs, rfl, h1, r1⟩ := hd
    cases (show y = .int i from he)
    obtain ⟨w', g1, g2⟩ := atI_rep r1 hb
    exact ix_list value slice pins s σ H _ _ v u Q I rx ry ⟨a, vs, i, w', rfl, rfl, .of h1, g1, k w' g2⟩ hs
  · rename_i xs i
    obtain ⟨a, vs, rfl, h1, r1⟩ := hd
    cases (show y = .int i from he)
    obtain ⟨w', g1, g2⟩ := atI_rep r1 hb
    exact ix_tup value slice pins s σ H _ _ v u Q I rx ry ⟨a, vs, i, w', rfl, rfl, m.sub.sqT h1, g1, k w' g2⟩ hs
  · rename_i z i
    cases (show x = .str z from hd)
    cases (show y = .int i from he)
    split at hb
    · rename_i hc
      simp only [Option.map_eq_some_iff] at hb
      obtain ⟨c, g, rfl⟩ := hb
      exact ix_str value slice pins s σ H _ _ v u Q I rx ry ⟨z, i, c, rfl, rfl, hc, g, k _ rfl⟩ hs
    · cases hb
  · cases hb
theorem cut_rep {K : PySem.W.Frag} {F : Hp} {ds : List D} {vs : List V} (lo hi : Option Int) (r : Reps K F ds vs) : Reps K F (cutD ds lo hi) (cutV vs lo hi) := by
  unfold cutD cutV
  rw [r.length]
  exact (r.drop _).take _
theorem cutD_whole {ds : List D} {lo hi : Option Int} (h : HT.sIx ds.length 0 lo = 0 ∧ HT.sIx ds.length ds.length hi = ds.length) : cutD ds lo hi = ds := by
  unfold cutD
  rw [h.1, h.2]
  simp
def rSlD (K : PySem.W.Frag) : V → Option Int → Option Int → Hp → VK → Prop := fun x lo hi H Q => ∃ F μ S d r, Mh K H S F μ ∧ RepH K F H d x ∧ slD d lo hi = some r ∧ K1 K F μ S r Q
theorem sl_ok : SlR X (rSlD X.K) := by
  intro pins s σ H x v vl vu lo hi sl Q I rx hs pl pu h
  obtain ⟨F, μ, S, d, r, m, hd, hb, k⟩ := h
  unfold slD at hb
  split at hb
  · cases hb
    obtain ⟨a, vs, rfl, h1, r1⟩ := hd
    exact sl_list pins s σ H _ v vl vu lo hi sl Q I rx hs pl pu ⟨a, vs, rfl, .of h1, k.lst m (cut_rep lo hi r1)⟩
  · rename_i xs
    cases hb
    obtain ⟨a, vs, rfl, h1, r1⟩ := hd
    refine sl_tupA pins s σ H _ v vl vu lo hi sl Q I rx hs pl pu ⟨a, vs, rfl, m.sub.sqT h1, fun e => ?_, fun _ => k.tup m (cut_rep lo hi r1)⟩
    rw [r1.length] at e
    rw [cutD_whole e] at k
    exact k _ H F (Le.refl F) m ⟨a, vs, rfl, h1, r1⟩
  · cases hb
end
end DV

set_option Elab.async false
set_option linter.all false
set_option maxRecDepth 100000
set_option maxHeartbeats 4000000
/-! DV4: the built-in functions. -/
namespace DV
open PySem PySem.Spec PyProof.Rows L2

def RepHs (K : PySem.W.Frag) (F H : Hp) : List D → List V → Prop
  | [], xs => xs = []
  | d :: ds, xs => ∃ v vs, xs = v :: vs ∧ RepH K F H d v ∧ RepHs K F H ds vs
theorem ders_rep {K : PySem.W.Frag} {H : Hp} {S : Store} {F : Hp} {μ : Fp} (m : Mh K H S F μ) : ∀ {vs : List Sv} {xs : List V} {ds : List D}, RepSs K F μ vs xs → ders S vs = some ds → RepHs K F H ds xs
  | [], _, _, h, e => by cases h; simp [ders] at e; subst e; rfl
  | v :: vs, _, _, ⟨x, xs, ev, h, r⟩, e => by
    subst ev
    unfold ders at e
    cases e1 : der S v with
    | none => rw [e1] at e; cases e
    | some d =>
      rw [e1] at e
      simp only [Option.map_eq_some_iff] at e
      obtain ⟨ds, e2, rfl⟩ := e
      exact ⟨x, xs, rfl, der_rep m h e1, ders_rep m r e2⟩
section
variable {K : PySem.W.Frag} {F H : Hp}
theorem RepHs.one {d : D} {xs : List V} (h : RepHs K F H [d] xs) : ∃ x, xs = [x] ∧ RepH K F H d x := by
  obtain ⟨x, _, rfl, h, rfl⟩ := h
  exact ⟨x, rfl, h⟩
theorem RepHs.two {d e : D} {xs : List V} (h : RepHs K F H [d, e] xs) : ∃ x y, xs = [x, y] ∧ RepH K F H d x ∧ RepH K F H e y := by
  obtain ⟨x, _, rfl, h, y, _, rfl, h2, rfl⟩ := h
  exact ⟨x, y, rfl, h, h2⟩
end
def rBi (K : PySem.W.Frag) (f : List D → Option D) : List V → Hp → VK → Prop := fun xs H Q => ∃ F μ S ds r, Mh K H S F μ ∧ RepHs K F H ds xs ∧ f ds = some r ∧ K1 K F μ S r Q

theorem foldl_max : ∀ (xs : List Int) (a : Int), (xs.foldl (fun a b => if b > a then b else a) a ∈ a :: xs) ∧ ∀ y ∈ a :: xs, y ≤ xs.foldl (fun a b => if b > a then b else a) a
  | [], a => ⟨by simp, by simp⟩
  | x :: xs, a => by
    rw [List.foldl_cons]
    obtain ⟨h1, h2⟩ := foldl_max xs (if x > a then x else a)
    refine ⟨?_, fun y hy => ?_⟩
    · rcases List.mem_cons.mp h1 with e | e
      · rw [e]; split <;> simp
      · simp [e]
    · have h3 := h2 _ (List.mem_cons_self)
      rcases List.mem_cons.mp hy with rfl | hy
      · split at h3 <;> split <;> omega
      · rcases List.mem_cons.mp hy with rfl | hy
        · split at h3 <;> split <;> omega
        · exact h2 y (List.mem_cons_of_mem _ hy)
theorem foldl_min : ∀ (xs : List Int) (a : Int), (xs.foldl (fun a b => if b < a then b else a) a ∈ a :: xs) ∧ ∀ y ∈ a :: xs, xs.foldl (fun a b => if b < a then b else a) a ≤ y
  | [], a => ⟨by simp, by simp⟩
  | x :: xs, a => by
    rw [List.foldl_cons]
    obtain ⟨h1, h2⟩ := foldl_min xs (if x < a then x else a)
    refine ⟨?_, fun y hy => ?_⟩
    · rcases List.mem_cons.mp h1 with e | e
      · rw [e]; split <;> simp
      · simp [e]
    · have h3 := h2 _ (List.mem_cons_self)
      rcases List.mem_cons.mp hy with rfl | hy
      · split at h3 <;> split <;> omega
      · rcases List.mem_cons.mp hy with rfl | hy
        · split at h3 <;> split <;> omega
        · exact h2 y (List.mem_cons_of_mem _ hy)
theorem maxI_is {ns : List Int} {m : Int} (h : maxI ns = some m) : 0 < ns.length ∧ m ∈ ns ∧ ∀ y ∈ ns, y ≤ m := by
  cases ns with
  | nil => cases h
  | cons x xs =>
    simp [maxI] at h
    subst h
    exact ⟨by simp, (foldl_max xs x).1, (foldl_max xs x).2⟩
theorem minI_is {ns : List Int} {m : Int} (h : minI ns = some m) : 0 < ns.length ∧ m ∈ ns ∧ ∀ y ∈ ns, m ≤ y := by
  cases ns with
  | nil => cases h
  | cons x xs =>
    simp [minI] at h
    subst h
    exact ⟨by simp, (foldl_min xs x).1, (foldl_min xs x).2⟩

section
variable {X : Cx}
theorem bi_len : CallR X (.builtin "len") (rBi X.K biLen) := by
  intro pins s σ H xs us Q I r h
  obtain ⟨F, μ, S, ds, d, m, hr, hb, k⟩ := h
  unfold biLen at hb
  split at hb
  · cases hb
    obtain ⟨x, rfl, a, vs, rfl, h1, r1⟩ := hr.one
    exact call_len pins s σ H _ us Q I r ⟨_, _, rfl, .inl ⟨vs, .of h1, rfl⟩, by rw [r1.length]; exact k.int m⟩
  · cases hb
    obtain ⟨x, rfl, a, vs, rfl, h1, r1⟩ := hr.one
    exact call_len pins s σ H _ us Q I r ⟨_, _, rfl, .inr ⟨vs, m.sub.sqT h1, rfl⟩, by rw [r1.length]; exact k.int m⟩
  · split at hb
    · rename_i z hc
      cases hb
      obtain ⟨x, rfl, hx⟩ := hr.one
      cases (show x = .str z from hx)
      exact call_len pins s σ H _ us Q I r ⟨_, _, rfl, ⟨hc, rfl⟩, k.int m⟩
    · cases hb
  · cases hb
theorem bi_abs : CallR X (.builtin "abs") (rBi X.K biAbs) := by
  intro pins s σ H xs us Q I r h
  obtain ⟨F, μ, S, ds, d, m, hr, hb, k⟩ := h
  unfold biAbs at hb
  split at hb
  · rename_i i
    cases hb
    obtain ⟨x, rfl, hx⟩ := hr.one
    cases (show x = .int i from hx)
    exact call_abs pins s σ H _ us Q I r ⟨_, rfl, k.int m⟩
  · cases hb
theorem bi_max (hc : X.calm = true) : CallR X (.builtin "max") (rBi X.K biMax) := by
  intro pins s σ H xs us Q I r h
  obtain ⟨F, μ, S, ds, d, m, hr, hb, k⟩ := h
  unfold biMax at hb
  split at hb
  · rename_i i j
    cases hb
    obtain ⟨x, y, rfl, hx, hy⟩ := hr.two
    cases (show x = .int i from hx); cases (show y = .int j from hy)
    exact call_max2 hc pins s σ H _ us Q I r ⟨_, _, rfl, k.int m⟩
  · rename_i ds'
    obtain ⟨x, rfl, a, vs, rfl, h1, r1⟩ := hr.one
    cases e : intsOf ds' with
    | none => rw [e] at hb; cases hb
    | some ns =>
      rw [e] at hb
      simp only [Option.bind_some, Option.map_eq_some_iff] at hb
      obtain ⟨M, hM, rfl⟩ := hb
      have g := r1.ints e
      subst g
      obtain ⟨p1, p2, p3⟩ := maxI_is hM
      refine cr_max hc pins s σ H _ us Q I r ⟨a, ns, rfl, .of h1, p1, fun m' h1 h2 => ?_⟩
      have : m' = M := by
        have := p3 m' h1
        have := h2 M p2
        omega
      subst this
      exact k.int m
  · cases hb
theorem bi_min (hc : X.calm = true) : CallR X (.builtin "min") (rBi X.K biMin) := by
  intro pins s σ H xs us Q I r h
  obtain ⟨F, μ, S, ds, d, m, hr, hb, k⟩ := h
  unfold biMin at hb
  split at hb
  · rename_i i j
    cases hb
    obtain ⟨x, y, rfl, hx, hy⟩ := hr.two
    cases (show x = .int i from hx); cases (show y = .int j from hy)
    exact call_min2 hc pins s σ H _ us Q I r ⟨_, _, rfl, k.int m⟩
  · rename_i ds'
    obtain ⟨x, rfl, a, vs, rfl, h1, r1⟩ := hr.one
    cases e : intsOf ds' with
    | none => rw [e] at hb; cases hb
    | some ns =>
      rw [e] at hb
      simp only [Option.bind_some, Option.map_eq_some_iff] at hb
      obtain ⟨M, hM, rfl⟩ := hb
      have g := r1.ints e
      subst g
      obtain ⟨p1, p2, p3⟩ := minI_is hM
      refine cr_min hc pins s σ H _ us Q I r ⟨a, ns, rfl, .of h1, p1, fun m' h1 h2 => ?_⟩
      have : m' = M := by
        have := p3 m' h1
        have := h2 M p2
        omega
      subst this
      exact k.int m
  · cases hb
theorem bi_sum (hc : X.calm = true) : CallR X (.builtin "sum") (rBi X.K biSum) := by
  intro pins s σ H xs us Q I r h
  obtain ⟨F, μ, S, ds, d, m, hr, hb, k⟩ := h
  unfold biSum at hb
  split at hb
  · simp only [Option.map_eq_some_iff] at hb
    obtain ⟨ns, e, rfl⟩ := hb
    obtain ⟨x, rfl, a, vs, rfl, h1, r1⟩ := hr.one
    have g := r1.ints e
    subst g
    exact cr_sum hc pins s σ H _ us Q I r ⟨a, ns, rfl, .of h1, k.int m⟩
  · cases hb
theorem bi_any (hc : X.calm = true) : CallR X (.builtin "any") (rBi X.K biAny) := by
  intro pins s σ H xs us Q I r h
  obtain ⟨F, μ, S, ds, d, m, hr, hb, k⟩ := h
  unfold biAny at hb
  split at hb
  · simp only [Option.map_eq_some_iff] at hb
    obtain ⟨ns, e, rfl⟩ := hb
    obtain ⟨x, rfl, a, vs, rfl, h1, r1⟩ := hr.one
    have g := r1.bls e
    subst g
    exact cr_any hc pins s σ H _ us Q I r ⟨a, ns, rfl, .of h1, k.bl m⟩
  · cases hb
theorem bi_all (hc : X.calm = true) : CallR X (.builtin "all") (rBi X.K biAll) := by
  intro pins s σ H xs us Q I r h
  obtain ⟨F, μ, S, ds, d, m, hr, hb, k⟩ := h
  unfold biAll at hb
  split at hb
  · simp only [Option.map_eq_some_iff] at hb
    obtain ⟨ns, e, rfl⟩ := hb
    obtain ⟨x, rfl, a, vs, rfl, h1, r1⟩ := hr.one
    have g := r1.bls e
    subst g
    exact cr_all hc pins s σ H _ us Q I r ⟨a, ns, rfl, .of h1, k.bl m⟩
  · cases hb
theorem bi_int : CallR X (.type "int") (rBi X.K biInt) := by
  intro pins s σ H xs us Q I r h
  obtain ⟨F, μ, S, ds, d, m, hr, hb, k⟩ := h
  unfold biInt at hb
  split at hb
  · rename_i i
    cases hb
    obtain ⟨x, rfl, hx⟩ := hr.one
    cases (show x = .int i from hx)
    exact call_int1 pins s σ H _ us Q I r (.inl ⟨_, rfl, k.int m⟩)
  · rename_i i
    cases hb
    obtain ⟨x, rfl, hx⟩ := hr.one
    cases (show x = .bl i from hx)
    exact call_int1 pins s σ H _ us Q I r (.inr ⟨_, rfl, k.int m⟩)
  · cases hb
theorem bi_tuple : CallR X (.type "tuple") (rBi X.K biTuple) := by
  intro pins s σ H xs us Q I r h
  obtain ⟨F, μ, S, ds, d, m, hr, hb, k⟩ := h
  unfold biTuple at hb
  split at hb
  · cases hb
    obtain ⟨x, rfl, a, vs, rfl, h1, r1⟩ := hr.one
    exact call_tuple_of pins s σ H _ us Q I r ⟨a, vs, rfl, .inl ⟨.of h1, k.tup m r1⟩⟩
  · cases hb
    obtain ⟨x, rfl, a, vs, rfl, h1, r1⟩ := hr.one
    exact call_tuple_of pins s σ H _ us Q I r ⟨a, vs, rfl, .inr ⟨m.sub.sqT h1, k _ H F (Le.refl F) m ⟨a, vs, rfl, h1, r1⟩⟩⟩
  · cases hb
theorem bi_list : CallR X (.type "list") (rBi X.K biList) := by
  intro pins s σ H xs us Q I r h
  obtain ⟨F, μ, S, ds, d, m, hr, hb, k⟩ := h
  unfold biList at hb
  split at hb
  · cases hb
    obtain ⟨x, rfl, a, vs, rfl, h1, r1⟩ := hr.one
    exact call_list_of pins s σ H _ us Q I r ⟨a, vs, rfl, .inl (.of h1), k.lst m r1⟩
  · cases hb
    obtain ⟨x, rfl, a, vs, rfl, h1, r1⟩ := hr.one
    exact call_list_of pins s σ H _ us Q I r ⟨a, vs, rfl, .inr (m.sub.sqT h1), k.lst m r1⟩
  · rename_i ns
    cases hb
    obtain ⟨x, rfl, a, rfl, h1⟩ := hr.one
    exact call_list_of pins s σ H _ us Q I r ⟨a, _, rfl, .inl (m.sub.sqL h1), k.lst m (Reps.ofInts ns)⟩
  · cases hb

/-! ### sorted -/
/-- the value v stands for d -/
def Std (K : PySem.W.Frag) (F : Hp) (v : Value) (d : D) : Prop := ∃ x, RelV x v ∧ Rep K F d x
theorem each_of {K : PySem.W.Frag} {F : Hp} : ∀ {ds : List D} {vs : List V} {us : List Value}, Reps K F ds vs → Vals vs us → PySem.W.EachIs (Std K F) us ds
  | [], _, _, h, r => by cases h; cases r; exact .nil
  | d :: ds, _, _, ⟨v, vs, e, h, t⟩, r => by
    subst e
    cases r with
    | cons r1 r2 => exact .cons ⟨v, r1, h⟩ (each_of t r2)
theorem each_to {K : PySem.W.Frag} {F : Hp} : ∀ {us : List Value} {ds : List D}, PySem.W.EachIs (Std K F) us ds → ∃ vs, Vals vs us ∧ Reps K F ds vs
  | _, _, .nil => ⟨[], .nil, rfl⟩
  | _, _, .cons h t => by
    obtain ⟨x, r1, r2⟩ := h
    obtain ⟨vs, q1, q2⟩ := each_to t
    exact ⟨x :: vs, .cons r1 q1, Reps.cons r2 q2⟩
theorem encD_of {d : D} (h : (toPy d).isSome = true) : toPy d = some (encD d) := by
  obtain ⟨p, e⟩ := Option.isSome_iff_exists.mp h
  unfold encD; rw [e]; rfl
theorem bi_sorted (hu : X.A.units + 65 < cLine) : CallR X (.builtin "sorted") (rBi X.K biSorted) := by
  intro pins s σ H xs us Q I r h
  obtain ⟨F, μ, S, ds, d, m, hr, hb, k⟩ := h
  unfold biSorted at hb
  split at hb
  · rename_i ds'
    simp only [Option.map_eq_some_iff] at hb
    obtain ⟨os, e, rfl⟩ := hb
    obtain ⟨x, rfl, a, vs, rfl, h1, r1⟩ := hr.one
    unfold sortedD at e
    split at e
    · rename_i hc
      cases e
      obtain ⟨hc, hlen⟩ := hc
      unfold sortOK at hc
      simp only [Bool.and_eq_true, List.all_eq_true, Bool.or_eq_true, decide_eq_true_eq] at hc
      obtain ⟨⟨⟨c1, c2⟩, c3⟩, c4⟩ := hc
      rw [Vals.ref1 r]
      obtain ⟨its, rv, hl, hz⟩ := I.list (.of h1 : SqL X.K H a vs)
      have ei := each_of (K := X.K) (F := F) r1 rv
      have er : PySem.W.EachIs (fun v b => ∃ as, Reads s.heap v (encD b) as) its ds' := (PySem.W.each_mem ei).mono fun v b ⟨⟨x, q1, q2⟩, hb⟩ => Dp.reads I (encD b) x v (Rep.dp m.sub q2 (encD_of (c1 b hb))) q1
      refine PySem.W.sorted_data (R := Std X.K F) (enc := encD) hl.isList ei er ?_ ?_ hlen (fun b hb => ?_) fun out ho eo => ?_
      · intro d hd d' hd'
        obtain ⟨b, hb, rfl⟩ := List.mem_map.mp hd
        obtain ⟨b', hb', rfl⟩ := List.mem_map.mp hd'
        exact c2 b hb b' hb'
      · rcases c3 with c3 | c3
        · left
          intro d hd
          obtain ⟨b, hb, rfl⟩ := List.mem_map.mp hd
          have := c3 b hb
          unfold isTup1 at this
          split at this
          · rename_i x r e; exact ⟨x, r, e⟩
          · cases this
        · right
          intro d hd
          obtain ⟨b, hb, rfl⟩ := List.mem_map.mp hd
          have := c3 b hb
          unfold noTupN at this
          refine ⟨fun e => ?_, fun xs e => ?_⟩ <;> rw [e] at this <;> cases this
      · have := c4 b hb
        omega
      · obtain ⟨ws, q1, q2⟩ := each_to eo
        obtain ⟨ep, he'⟩ := PyProof.Rows.sortedAll_at s.heap its out.toArray
        have hn : H (s.heap.objs.size + 1) = none := I.hok.fresh (Nat.le_succ _)
        have hlw : ws.length ≤ sizeLine := by
          rw [q1.length, ho]; exact hlen
        exact ⟨.ref _, upd H (s.heap.objs.size + 1) (.lst ws), I.laid (t' := s.toks) (fun _ _ => PyProof.Rows.sortedAll_old) (Nat.le_succ _) ⟨hlw, out, ep, q1, he'⟩, rfl, k.lst m q2 _ hn⟩
    · cases e
  · cases hb

/-! ### isinstance -/
def rIsiD (K : PySem.W.Frag) (T : Ty) : V → Hp → VK → Prop := fun x H Q => ∃ F μ S d r, Mh K H S F μ ∧ RepH K F H d x ∧ isiD d T = some r ∧ Q (.bl r) H
theorem tyx_of {K : PySem.W.Frag} {F H : Hp} {μ : Fp} {S : Store} {d : D} {x : V} (m : Mh K H S F μ) (r : RepH K F H d x) :
    match d with
    | .non => TyX K H x (.type "NoneType") | .bl _ => TyX K H x (.type "bool") | .int _ => TyX K H x (.type "int") | .str _ => TyX K H x (.type "str")
    | .tup _ => TyX K H x (.type "tuple") | .lst _ => TyX K H x (.type "list") | _ => True := by
  cases d with
  | non => cases (show x = .non from r); exact .base .non
  | bl b => cases (show x = .bl b from r); exact .base (.bl b)
  | int b => cases (show x = .int b from r); exact .base (.int b)
  | str b => cases (show x = .str b from r); exact .base (.str b)
  | tup ds =>
    obtain ⟨a, vs, rfl, h, _⟩ := r
    rcases m.sub.sqT h with (h | ⟨o, h⟩) | ⟨o, its, n, h1, h2, _⟩
    · exact .base (.tup h)
    · exact .fTuple h
    · exact .kTuple h1 h2
  | lst ds =>
    obtain ⟨a, vs, rfl, h, _⟩ := r
    exact .base (.lst h)
  | scr _ => trivial
  | fn _ => trivial
theorem isi_ok {T : Ty} {pins : List (Addr × Obj)} {s : Shared} {σ : L2.St} {H : Hp} {x : V} {v : Value} {Q : VK} (I : Inv X pins σ H s) (rx : RelV x v) (h : rIsiD X.K T x H Q) :
    wpAny (model X.prog X.w) X.A (call (.builtin "isinstance") [v, .type T.name]) (EP X pins σ Q) X.xe s := by
  obtain ⟨F, μ, S, d, r, m, hd, hb, q⟩ := h
  have ty := tyx_of m hd
  have fin : ∀ {t0 : String}, TyX X.K H x (.type t0) → kitB t0 T.name = some r → wpAny (model X.prog X.w) X.A (call (.builtin "isinstance") [v, .type T.name]) (EP X pins σ Q) X.xe s := fun {t0} h1 h2 =>
    call_isi pins s σ H [x, .ty T.name] [v, .type T.name] Q I (.cons rx (.cons rfl .nil)) ⟨x, .ty T.name, .type t0, .type T.name, r, rfl, .ty T.name, h1, kit_ty h2, q⟩
  cases T
  all_goals
    cases d with
    | scr _ => cases hb
    | fn _ => cases hb
    | _ => exact fin ty (by cases hb; decide +kernel)
end
end DV

set_option Elab.async false
set_option linter.all false
set_option maxRecDepth 100000
set_option maxHeartbeats 4000000
/-! DV5: from the text's expressions to the intermediate form. -/
namespace DV
open PySem PySem.Spec PyProof.Rows L2

structure CI where
  N : List Str
  defs : List (Str × (Nat × Bool))
  bis : List Str
  consts : List (Str × D)
  gcds : List Str := []
def ixOf : List Str → Str → Option Nat
  | [], _ => none
  | y :: N, x => if y = x then some 0 else (ixOf N x).map (· + 1)
theorem ixOf_get : ∀ {N : List Str} {x : Str} {i : Nat}, ixOf N x = some i → N[i]? = some x
  | [], _, _, h => by cases h
  | y :: N, x, i, h => by
    unfold ixOf at h
    split at h
    · rename_i e; cases h; simp [e]
    · simp only [Option.map_eq_some_iff] at h
      obtain ⟨j, h1, rfl⟩ := h
      simpa using ixOf_get h1
def optAll {α β : Type} (f : α → Option β) : List α → Option (List β)
  | [] => some []
  | a :: as => match f a with
    | some b => (optAll f as).map (b :: ·)
    | none => none
def isGlob (sc : Scope) (x : Str) : Bool := decide (sc.names.lookup x = some .globalImplicit) && decide ((x == ("__debug__" : Str)) = false)
def CI.nm (ci : CI) (sc : Scope) (x : Str) : Option DE :=
  if (x == ("__debug__" : Str)) = true ∨ (x == ("__classdict__" : Str)) = true then none
  else match sc.names.lookup x with
    | some .local => (ixOf ci.N x).map .var
    | some .cell => (ixOf ci.N x).map .var
    | some .free => (ixOf ci.N x).map .var
    | some .globalImplicit => (ci.consts.lookup x).map .con
    | _ => none
def bools (op : BoolOp) : List DE → Option DE
  | [] => none
  | [a] => some a
  | a :: b :: r => (bools op (b :: r)).map fun t => match op with
    | .And => .and a t
    | .Or => .or a t
/-- targets; st: which of the cells may be stored -/
def compT (ci : CI) (st : Str → Bool) : Nat → Scope → Expr → Option DT
  | 0, _, _ => none
  | n + 1, sc, .Name x _ => if sc.names.lookup x = some .local ∨ (sc.names.lookup x = some .cell ∧ st x = true) then (ixOf ci.N x).map .name else none
  | n + 1, sc, .Tuple es _ _ => (optAll (compT ci st n sc) es).map .tup
  | _ + 1, _, _ => none
mutual
def DT.slots : DT → List Nat
  | .name i => [i]
  | .tup ts => DT.slotss ts
termination_by structural x => x
def DT.slotss : List DT → List Nat
  | [] => []
  | t :: ts => DT.slots t ++ DT.slotss ts
termination_by structural x => x
end
/-- the own names of a comprehension's block, with their places -/
def ownOf (N : List Str) (scope : Scope) : List (Str × Nat) :=
  scope.names.filterMap fun y => match y.2 with
    | .local => (ixOf N y.1).map fun i => (y.1, i)
    | .cell => (ixOf N y.1).map fun i => (y.1, i)
    | _ => none
def isTup : Expr → Bool
  | .Tuple .. => true
  | _ => false
/-- what is walked: a sequence, or a call of range, zip, enumerate -/
def iterK (ci : CI) (sc : Scope) (tg iter : Expr) : IK × List Expr :=
  match iter with
  | .Call (.Name f _) args [] _ =>
    if isGlob sc f = true ∧ f ∈ ci.bis then
      (if f = "range" ∧ 1 ≤ args.length ∧ args.length ≤ 3 then (.rng, args) else if f = "zip" ∧ isTup tg = true ∧ args.length = 2 then (.zip, args) else if f = "enumerate" ∧ isTup tg = true ∧ args.length = 1 then (.enum, args) else (.seq, [iter]))
    else (.seq, [iter])
  | _ => (.seq, [iter])
def compE (ci : CI) : Nat → Scope → Expr → Option DE
  | 0, _, _ => none
  | n + 1, sc, e => match e with
    | .Name x _ => ci.nm sc x
    | .Constant c _ _ => (match c with
      | .int i => some (.con (.int i))
      | .bool b => some (.con (.bl b))
      | .none => some (.con .non)
      | .str x => some (.con (.str x))
      | _ => none)
    | .BinOp a op b _ => (compE ci n sc a).bind fun a' => (compE ci n sc b).map fun b' => .bin op a' b'
    | .UnaryOp op a _ => (match op with
      | .USub => (compE ci n sc a).map .neg
      | .Not => (compE ci n sc a).map .not
      | _ => none)
    | .Compare a ops cs _ => (match ops, cs with
      | [op], [b] => if behindInMarks op b = true then none else (compE ci n sc a).bind fun a' => (compE ci n sc b).map fun b' => .cmp op a' b'
      | [op, op'], [b, c] => if lastMarks [op, op'] [b, c] = true then none else (compE ci n sc a).bind fun a' => (compE ci n sc b).bind fun b' => (compE ci n sc c).map fun c' => .chain op op' a' b' c'
      | _, _ => none)
    | .BoolOp op vs _ => (optAll (compE ci n sc) vs).bind (bools op)
    | .IfExp c a b _ => (compE ci n sc c).bind fun c' => (compE ci n sc a).bind fun a' => (compE ci n sc b).map fun b' => .ife c' a' b'
    | .Tuple es _ _ => if es.length ≤ 1000 then (optAll (compE ci n sc) es).map .tup else none
    | .List es _ => if es.length ≤ 1000 then (optAll (compE ci n sc) es).map .lst else none
    | .Subscript a i _ => (match i with
      | .Slice lo hi none _ => (compE ci n sc a).bind fun a' => (match lo with
        | none => some none
        | some l => (compE ci n sc l).map some).bind fun lo' => (match hi with
        | none => some none
        | some h => (compE ci n sc h).map some).map fun hi' => .sl a' lo' hi'
      | i => (compE ci n sc a).bind fun a' => (compE ci n sc i).map fun i' => .ix a' i')
    | .Call f args kws _ => (match f, kws with
      | .Name f _, [] => if isGlob sc f = true then (match ci.defs.lookup f with
          | some (ar, fr) => if args.length = ar then (optAll (compE ci n sc) args).map (.call f fr) else none
          | none => if f ∈ ci.bis then
              (if f = "isinstance" then (match args with
                | [a, .Name T _] => if isGlob sc T = true ∧ T ∈ ci.bis then (tyTab.lookup T).bind fun t => (compE ci n sc a).map fun a' => .isi a' t else none
                | _ => none)
              else (biTab.lookup f).bind fun b => if args ≠ [] then (optAll (compE ci n sc) args).map (.bi b) else none)
            else if f ∈ ci.gcds ∧ args ≠ [] then (optAll (compE ci n sc) args).map (.bi .gcd) else none) else none
      | _, _ => none)
    | .ListComp elt gens scope _ => (match gens with
      | [⟨tg, iter, ifs, 0⟩] =>
        let own := ownOf ci.N scope
        if blkC ci.N sc scope own = true ∧ ifs.length ≤ 1 then
          (compT ci (fun x => decide (scope.names.lookup x = some .cell)) n (relS scope sc) tg).bind fun tg' =>
          if tg'.slots.all (fun i => decide (i ∈ own.map (·.2))) = true then
            (optAll (compE ci n sc) (iterK ci sc tg iter).2).bind fun args' =>
            (optAll (compE ci n (relS scope sc)) ifs).bind fun ifs' =>
            (compE ci n (relS scope sc) elt).map fun elt' => .lc elt' tg' (iterK ci sc tg iter).1 args' ifs' (own.map (·.2))
          else none
        else none
      | _ => none)
    | _ => none
end DV

set_option Elab.async false
set_option linter.all false
set_option maxRecDepth 100000
set_option maxHeartbeats 4000000
/-! DV6: the compiled expressions are what the text's expressions compute. -/
namespace DV
open PySem PySem.Spec PyProof.Rows L2

/-- a def's promise: what the evaluation of its call says -/
def spD (K : PySem.W.Frag) (mg : Str → Option Value) (call : CallF) (f : Str) (ar : Nat) (fr : Bool) : Sp := fun vs H Q E =>
  ∃ F μ S ds, ds.length = ar ∧ Mh K H S F μ ∧ RepSs K F μ ds vs ∧ End K mg E μ (if fr then RpF K μ else RpE K μ) F (call f ds S) Q
structure Gd (ci : CI) (call : CallF) (kl : Nat) (st : Str → Bool) (W : WX) (sc : Scope) (X : Cx) : Prop where
  N : X.N = ci.N
  nd : X.N.Nodup
  sc : X.env.scope = sc
  calm : X.calm = true
  fn : ∀ x, st x = true → X.fn x = true
  tk : Takes X W
  room : Room kl X.A
  defs : ∀ f ar fr, ci.defs.lookup f = some (ar, fr) → ∃ a fd ps, X.mg f = some (.ref a) ∧ ps.length = ar ∧ PySem.W.keepIn X.K (.ref a) = true ∧ Binds X.K fd ps [] ∧
    FnOk X.prog X.w X.K X.mg X.base (L2.CX X.prog X.w) kl a fd ps (spD X.K X.mg call f ar fr)
  bis : ∀ b ∈ ci.bis, X.mg b = none
  gcds : ∀ b ∈ ci.gcds, X.mg b = some (.builtin "math.gcd")
  consts : ∀ x d, ci.consts.lookup x = some d → ∃ u v, X.mg x = some u ∧ RelV v u ∧ ∀ F, Rep X.K F d v
section
variable {X : Cx}
theorem PE.imp {e : Expr} {t t' : TE} (h : PE X e t) (k : ∀ σ H Q, t' σ H Q → t σ H Q) : PE X e t' := ⟨fun pins s σ H Q I hw => h.run pins s σ H Q I (k _ _ _ hw)⟩
theorem PT.imp {e : Expr} {t t' : TT} (h : PT X e t) (k : ∀ σ H Q, t' σ H Q → t σ H Q) : PT X e t' := ⟨fun pins s σ H Q I hw => h.run pins s σ H Q I (k _ _ _ hw)⟩
theorem PW.imp {e : Expr} {t t' : TT} (h : PW X e t) (k : ∀ σ H Q, t' σ H Q → t σ H Q) : PW X e t' := ⟨fun wh pins s σ H Q I hw => h.run wh pins s σ H Q I (k _ _ _ hw)⟩
theorem PA.imp {es : List Expr} {t t' : TA} (h : PA X es t) (k : ∀ σ H Q, t' σ H Q → t σ H Q) : PA X es t' := ⟨fun pos pins s σ H Q I hw => h.run pos pins s σ H Q I (k _ _ _ hw)⟩
theorem PI.imp {tg it : Expr} {t t' : TI} (h : PI X tg it t) (k : ∀ σ H Q, t' σ H Q → t σ H Q) : PI X tg it t' := ⟨fun pins s σ H R I hw => h.run pins s σ H R I (k _ _ _ hw)⟩
theorem PG.imp {tg : Expr} {t t' : TG} (h : PG X tg t) (k : ∀ v σ H Q, t' v σ H Q → t v σ H Q) : PG X tg t' := ⟨fun pins s σ H v u Q I r hw => h.run pins s σ H v u Q I r (k _ _ _ _ hw)⟩
end
/-- a reading by an evaluation -/
def rdE (X : Cx) (W : WX) (m : Loc → Store → R Sv) : TE := fun σ H Q => ∃ ρ S F μ, Ml X.K σ ρ F μ ∧ Mh X.K H S F μ ∧ End X.K X.mg (WE W σ) μ (RpE X.K μ) F (m ρ S) Q
def rdF (X : Cx) (W : WX) (m : Loc → Store → R Sv) : TE := fun σ H Q => ∃ ρ S F μ, Ml X.K σ ρ F μ ∧ Mh X.K H S F μ ∧ End X.K X.mg (WE W σ) μ (RpF X.K μ) F (m ρ S) Q
def rd (fr : Bool) (X : Cx) (W : WX) (m : Loc → Store → R Sv) : TE := if fr then rdF X W m else rdE X W m
def rdT (X : Cx) (W : WX) (m : Loc → Store → R Bool) : TT := fun σ H Q => ∃ ρ S F μ, Ml X.K σ ρ F μ ∧ Mh X.K H S F μ ∧ End X.K X.mg (WE W σ) μ RpT F (m ρ S) Q
def rdL (X : Cx) (W : WX) (m : Loc → Store → R (List Sv)) : TA := fun σ H Q => ∃ ρ S F μ, Ml X.K σ ρ F μ ∧ Mh X.K H S F μ ∧ End X.K X.mg (WE W σ) μ (RpL X.K μ) F (m ρ S) Q
def rdO (X : Cx) (W : WX) (m : Loc → Store → R (Option Int)) : TO := fun σ H Q => ∃ ρ S F μ, Ml X.K σ ρ F μ ∧ Mh X.K H S F μ ∧ End X.K X.mg (WE W σ) μ RpO F (m ρ S) Q
theorem rdE_rdF {X : Cx} {W : WX} {m : Loc → Store → R Sv} {σ : L2.St} {H : Hp} {Q : VK} (h : rdE X W m σ H Q) : rdF X W m σ H Q := by
  obtain ⟨ρ, S, F, μ, ml, mh, h⟩ := h
  exact ⟨ρ, S, F, μ, ml, mh, h.freeze⟩
theorem PE.frz {X : Cx} {W : WX} {e : Expr} {m : Loc → Store → R Sv} {fr : Bool} (h : PE X e (rd fr X W m)) : PE X e (rdE X W m) := by
  cases fr with
  | false => exact h
  | true => exact PE.imp h fun σ H Q => rdE_rdF
theorem End.of {K : PySem.W.Frag} {mg : Str → Option Value} {E : XK} {μ : Fp} {α β : Type} {Rp : Hp → Hp → α → β → Prop} {F : Hp} {o : Option α} {S : Store} {Q : β → Hp → Prop} (h : End K mg E μ Rp F (R.of o S) Q) :
    ∃ a, o = some a ∧ ∀ b H' F', Le F F' → Mh K H' S F' μ → Rp F' H' a b → Q b H' := by
  cases o with
  | none => exact (show False from h).elim
  | some a => exact ⟨a, rfl, h⟩
theorem R.of_bind {α β : Type} {o : Option α} {S : Store} {f : α → Option β} : (R.of o S).bind (fun a S => R.of (f a) S) = R.of (o.bind f) S := by
  cases o <;> rfl

section
variable {ci : CI} {call : CallF} {kl : Nat} {st : Str → Bool} {W : WX} {sc : Scope} {X : Cx}
theorem Gd.hu (g : Gd ci call kl st W sc X) : X.A.units + 65 < cLine := by have := g.room.un; omega
theorem isGlob_gl (g : Gd ci call kl st W sc X) {x : Str} (h : isGlob sc x = true) : Gl X x ∧ (x == ("__debug__" : Str)) = false := by
  unfold isGlob at h
  simp only [Bool.and_eq_true, decide_eq_true_eq] at h
  refine ⟨?_, h.2⟩
  show X.env.scope.names.lookup x = _
  rw [g.sc]; exact h.1

theorem snd_name (g : Gd ci call kl st W sc X) {x : Str} {pos : Pos} {e' : DE} (h : ci.nm sc x = some e') : PE X (.Name x pos) (rdE X W (evE call e')) := by
  unfold CI.nm at h
  split at h
  · cases h
  · rename_i hd
    have hd1 : (x == ("__debug__" : Str)) = false := by
      cases q : (x == ("__debug__" : Str)) with
      | false => rfl
      | true => exact absurd (.inl q) hd
    have hd2 : (x == ("__classdict__" : Str)) = false := by
      cases q : (x == ("__classdict__" : Str)) with
      | false => rfl
      | true => exact absurd (.inr q) hd
    have loc : ∀ {i : Nat}, ixOf ci.N x = some i → Vis X.env.scope x → PE X (.Name x pos) (rdE X W (evE call (.var i))) := fun {i} hi hv => by
      refine PE.imp (pe_var (i := i) (by rw [g.N]; exact ixOf_get hi) hv hd1 hd2) fun σ H Q hq => ?_
      obtain ⟨ρ, S, F, μ, ml, mh, h⟩ := hq
      obtain ⟨v, hv, k⟩ := End.of (show End _ _ _ _ _ _ (R.of (lget ρ i) S) Q from h)
      obtain ⟨y, h1, h2⟩ := ml.get hv
      exact ⟨y, h1, k y H F (Le.refl F) mh h2⟩
    split at h
    · rename_i q
      simp only [Option.map_eq_some_iff] at h
      obtain ⟨i, hi, rfl⟩ := h
      exact loc hi (.inl (by rw [g.sc]; exact q))
    · rename_i q
      simp only [Option.map_eq_some_iff] at h
      obtain ⟨i, hi, rfl⟩ := h
      exact loc hi (.inr (.inl (by rw [g.sc]; exact q)))
    · rename_i q
      simp only [Option.map_eq_some_iff] at h
      obtain ⟨i, hi, rfl⟩ := h
      exact loc hi (.inr (.inr (by rw [g.sc]; exact q)))
    · rename_i q
      simp only [Option.map_eq_some_iff] at h
      obtain ⟨d, hd, rfl⟩ := h
      obtain ⟨u, v, h1, h2, h3⟩ := g.consts x d hd
      refine PE.imp (pe_glob (by show X.env.scope.names.lookup x = _; rw [g.sc]; exact q) h1 h2 hd1) fun σ H Q hq => ?_
      obtain ⟨ρ, S, F, μ, ml, mh, h⟩ := hq
      exact (show ∀ b H' F', _ → _ → _ → Q b H' from h) v H F (Le.refl F) mh (h3 F)
    · cases h

/-- two in a row, then an operation -/
theorem rd2 {fr : Bool} {ma mb : Loc → Store → R Sv} {f : Sv → Sv → Store → R Sv} {r : R2} {σ : L2.St} {H : Hp} {Q : VK} (h : rd fr X W (fun ρ S => (ma ρ S).bind fun x S1 => (mb ρ S1).bind fun y S2 => f x y S2) σ H Q)
    (k : ∀ x y S F μ (a b : V) H', Mh X.K H' S F μ → RepS X.K F μ x a → RepS X.K F μ y b → End X.K X.mg (WE W σ) μ (if fr then RpF X.K μ else RpE X.K μ) F (f x y S) Q → r a b H' Q) :
    tOp r (rdE X W ma) (rdE X W mb) σ H Q := by
  have h' : ∃ ρ S F μ, Ml X.K σ ρ F μ ∧ Mh X.K H S F μ ∧ End X.K X.mg (WE W σ) μ (if fr then RpF X.K μ else RpE X.K μ) F ((ma ρ S).bind fun x S1 => (mb ρ S1).bind fun y S2 => f x y S2) Q := by
    cases fr <;> exact h
  obtain ⟨ρ, S, F, μ, ml, mh, h⟩ := h'
  refine ⟨ρ, S, F, μ, ml, mh, h.split fun x S1 a H1 F1 e1 l1 m1 r1 h1 => ?_⟩
  refine ⟨ρ, S1, F1, μ, ml.mono l1, m1, h1.split fun y S2 b H2 F2 e2 l2 m2 r2 h2 => ?_⟩
  exact k x y S2 F2 μ a b H2 m2 (r1.mono l2) r2 h2
theorem rd1 {fr : Bool} {ma : Loc → Store → R Sv} {f : Sv → Store → R Sv} {r : V → Hp → VK → Prop} {σ : L2.St} {H : Hp} {Q : VK} (h : rd fr X W (fun ρ S => (ma ρ S).bind fun x S1 => f x S1) σ H Q)
    (k : ∀ x S F μ (a : V) H', Mh X.K H' S F μ → RepS X.K F μ x a → End X.K X.mg (WE W σ) μ (if fr then RpF X.K μ else RpE X.K μ) F (f x S) Q → r a H' Q) :
    rdE X W ma σ H (fun x H1 => r x H1 Q) := by
  have h' : ∃ ρ S F μ, Ml X.K σ ρ F μ ∧ Mh X.K H S F μ ∧ End X.K X.mg (WE W σ) μ (if fr then RpF X.K μ else RpE X.K μ) F ((ma ρ S).bind fun x S1 => f x S1) Q := by
    cases fr <;> exact h
  obtain ⟨ρ, S, F, μ, ml, mh, h⟩ := h'
  exact ⟨ρ, S, F, μ, ml, mh, h.split fun x S1 a H1 F1 e1 l1 m1 r1 h1 => k x S1 F1 μ a H1 m1 r1 h1⟩
theorem End.k1 {F : Hp} {μ : Fp} {S : Store} {d : D} {Q : VK} {E : XK} {K : PySem.W.Frag} {mg : Str → Option Value} {fr : Bool} (h : End K mg E μ (if fr then RpF K μ else RpE K μ) F (.ok (.p d) S) Q) : K1 K F μ S d Q := by
  cases fr with
  | true => exact h
  | false =>
    have h' : End K mg E μ (RpE K μ) F (.ok (.p d) S) Q := h
    exact h'.freeze
theorem K1.frozen {K : PySem.W.Frag} {F : Hp} {μ : Fp} {S : Store} {d : D} {Q : VK} {E : XK} {mg : Str → Option Value} (h : End K mg E μ (RpE K μ) F (.ok (.p d) S) Q) : K1 K F μ S d Q := h.k1 (fr := false)
theorem snd_bin (g : Gd ci call kl st W sc X) {a b : Expr} {a' b' : DE} {op : Operator} {pos : Pos} (ha : PE X a (rdE X W (evE call a'))) (hb : PE X b (rdE X W (evE call b'))) :
    PE X (.BinOp a op b pos) (rd (frsh (.bin op a' b')) X W (evE call (.bin op a' b'))) := by
  refine PE.imp (pe_op (bin_ok op) ha hb) fun σ H Q hq => rd2 (f := fun x y S2 => match der S2 x, der S2 y with
    | some d, some e => R.of ((binD op d e).map .p) S2
    | _, _ => .bad) hq fun x y S F μ xa yb H' m r1 r2 h => ?_
  cases e1 : der S x with
  | none => rw [e1] at h; exact (show False from h).elim
  | some d =>
    cases e2 : der S y with
    | none => rw [e1, e2] at h; exact (show False from h).elim
    | some e =>
      rw [e1, e2] at h
      dsimp only at h
      cases e3 : binD op d e with
      | none => rw [e3] at h; exact (show False from h).elim
      | some r =>
        rw [e3] at h
        exact ⟨F, μ, S, d, e, r, m, der_rep m r1 e1, der_rep m r2 e2, e3, h.k1⟩
theorem snd_cmp (g : Gd ci call kl st W sc X) {a b : Expr} {a' b' : DE} {op : CmpOp} {pos : Pos} (hm : behindInMarks op b = false) (ha : PE X a (rdE X W (evE call a'))) (hb : PE X b (rdE X W (evE call b'))) :
    PE X (.Compare a [op] [b] pos) (rdE X W (evE call (.cmp op a' b'))) ∧ PT X (.Compare a [op] [b] pos) (rdT X W (evT call (.cmp op a' b'))) := by
  refine ⟨PE.imp (pe_cmpR (cmp_ok g.hu op) ha hb hm) fun σ H Q hq => ?_, PT.imp (pt_cmpR (cmp_ok g.hu op) ha hb hm) fun σ H Q hq => ?_⟩
  · refine rd2 (fr := false) (f := fun x y S2 => match der S2 x, der S2 y with
      | some d, some e => R.of ((cmpD op d e).map fun k => .p (.bl k)) S2
      | _, _ => .bad) hq fun x y S F μ xa yb H' m r1 r2 h => ?_
    cases e1 : der S x with
    | none => rw [e1] at h; exact (show False from h).elim
    | some d =>
      cases e2 : der S y with
      | none => rw [e1, e2] at h; exact (show False from h).elim
      | some e =>
        rw [e1, e2] at h
        dsimp only at h
        cases e3 : cmpD op d e with
        | none => rw [e3] at h; exact (show False from h).elim
        | some r =>
          rw [e3] at h
          exact ⟨F, μ, S, d, e, r, m, der_rep m r1 e1, der_rep m r2 e2, e3, h.k1.bl m⟩
  · obtain ⟨ρ, S, F, μ, ml, mh, h⟩ := hq
    have h : End X.K X.mg (WE W σ) μ RpT F ((evE call a' ρ S).bind fun x S1 => (evE call b' ρ S1).bind fun y S2 => match der S2 x, der S2 y with
      | some d, some e => R.of (cmpD op d e) S2
      | _, _ => .bad) Q := h
    refine ⟨ρ, S, F, μ, ml, mh, h.split fun x S1 xa H1 F1 _ l1 m1 r1 h1 => ?_⟩
    refine ⟨ρ, S1, F1, μ, ml.mono l1, m1, h1.split fun y S2 yb H2 F2 _ l2 m2 r2 h2 => ?_⟩
    cases e1 : der S2 x with
    | none => rw [e1] at h2; exact (show False from h2).elim
    | some d =>
      cases e2 : der S2 y with
      | none => rw [e1, e2] at h2; exact (show False from h2).elim
      | some e =>
        rw [e1, e2] at h2
        obtain ⟨k, e3, h3⟩ := h2.of
        exact ⟨F2, μ, S2, d, e, k, m2, der_rep m2 (r1.mono l2) e1, der_rep m2 r2 e2, e3, k, rfl, h3 k H2 F2 (Le.refl _) m2 rfl⟩
theorem snd_chain (g : Gd ci call kl st W sc X) {a b c : Expr} {a' b' c' : DE} {op op' : CmpOp} {pos : Pos} (hm : lastMarks [op, op'] [b, c] = false) (ha : PE X a (rdE X W (evE call a'))) (hb : PE X b (rdE X W (evE call b'))) (hc : PE X c (rdE X W (evE call c'))) :
    PE X (.Compare a [op, op'] [b, c] pos) (rdE X W (evE call (.chain op op' a' b' c'))) ∧ PT X (.Compare a [op, op'] [b, c] pos) (rdT X W (evT call (.chain op op' a' b' c'))) := by
  refine ⟨PE.imp (pe_chain (cmp_ok g.hu op) (cmp_ok g.hu op') ha hb hc hm) fun σ H Q hq => ?_, PT.imp (pt_chain (cmp_ok g.hu op) (cmp_ok g.hu op') ha hb hc hm) fun σ H Q hq => ?_⟩
  · obtain ⟨ρ, S, F, μ, ml, mh, h⟩ := hq
    have h : End X.K X.mg (WE W σ) μ (RpE X.K μ) F ((evE call a' ρ S).bind fun x S1 => (evE call b' ρ S1).bind fun y S2 => match x, y with
      | .p d, .p e => match cmpD op d e with
        | some true => (evE call c' ρ S2).bind fun z S3 => match z with
          | .p f => R.of ((cmpD op' e f).map fun k => .p (.bl k)) S3
          | _ => .bad
        | some false => .ok (.p (.bl false)) S2
        | none => .bad
      | _, _ => .bad) Q := h
    refine ⟨ρ, S, F, μ, ml, mh, h.split fun x S1 xa H1 F1 _ l1 m1 r1 h1 => ?_⟩
    refine ⟨ρ, S1, F1, μ, ml.mono l1, m1, h1.split fun y S2 yb H2 F2 _ l2 m2 r2 h2 => ?_⟩
    cases x with
    | c _ => exact (show False from h2).elim
    | p d =>
      cases y with
      | c _ => exact (show False from h2).elim
      | p e =>
        have r1 : Rep X.K F1 d xa := r1
        have r2 : Rep X.K F2 e yb := r2
        simp only at h2
        cases e3 : cmpD op d e with
        | none => rw [e3] at h2; exact (show False from h2).elim
        | some k =>
          refine ⟨F2, μ, S2, d, e, k, m2, (r1.mono l2).h m2.sub, r2.h m2.sub, e3, k, rfl, ?_⟩
          rw [e3] at h2
          cases k with
          | false => rw [if_neg (by decide)]; exact h2 _ H2 F2 (Le.refl _) m2 rfl
          | true =>
            rw [if_pos rfl]
            refine ⟨ρ, S2, F2, μ, (ml.mono l1).mono l2, m2, h2.split fun z S3 zc H3 F3 _ l3 m3 r3 h3 => ?_⟩
            cases z with
            | c _ => exact (show False from h3).elim
            | p f =>
              obtain ⟨v, e4, h4⟩ := h3.of
              simp only [Option.map_eq_some_iff] at e4
              obtain ⟨k', e4, rfl⟩ := e4
              exact ⟨F3, μ, S3, e, f, k', m3, (r2.mono l3).h m3.sub, (show Rep X.K F3 f zc from r3).h m3.sub, e4, h4 _ H3 F3 (Le.refl _) m3 rfl⟩
  · obtain ⟨ρ, S, F, μ, ml, mh, h⟩ := hq
    have h : End X.K X.mg (WE W σ) μ RpT F ((evE call a' ρ S).bind fun x S1 => (evE call b' ρ S1).bind fun y S2 => match x, y with
      | .p d, .p e => match cmpD op d e with
        | some true => (evE call c' ρ S2).bind fun z S3 => match z with
          | .p f => R.of (cmpD op' e f) S3
          | _ => .bad
        | some false => .ok false S2
        | none => .bad
      | _, _ => .bad) Q := h
    refine ⟨ρ, S, F, μ, ml, mh, h.split fun x S1 xa H1 F1 _ l1 m1 r1 h1 => ?_⟩
    refine ⟨ρ, S1, F1, μ, ml.mono l1, m1, h1.split fun y S2 yb H2 F2 _ l2 m2 r2 h2 => ?_⟩
    cases x with
    | c _ => exact (show False from h2).elim
    | p d =>
      cases y with
      | c _ => exact (show False from h2).elim
      | p e =>
        have r1 : Rep X.K F1 d xa := r1
        have r2 : Rep X.K F2 e yb := r2
        simp only at h2
        cases e3 : cmpD op d e with
        | none => rw [e3] at h2; exact (show False from h2).elim
        | some k =>
          refine ⟨F2, μ, S2, d, e, k, m2, (r1.mono l2).h m2.sub, r2.h m2.sub, e3, k, rfl, ?_⟩
          rw [e3] at h2
          cases k with
          | false => rw [if_neg (by decide)]; exact ⟨false, rfl, h2 _ H2 F2 (Le.refl _) m2 rfl⟩
          | true =>
            rw [if_pos rfl]
            refine ⟨ρ, S2, F2, μ, (ml.mono l1).mono l2, m2, h2.split fun z S3 zc H3 F3 _ l3 m3 r3 h3 => ?_⟩
            cases z with
            | c _ => exact (show False from h3).elim
            | p f =>
              obtain ⟨k', e4, h4⟩ := h3.of
              exact ⟨F3, μ, S3, e, f, k', m3, (r2.mono l3).h m3.sub, (show Rep X.K F3 f zc from r3).h m3.sub, e4, k', rfl, h4 _ H3 F3 (Le.refl _) m3 rfl⟩
theorem snd_neg (g : Gd ci call kl st W sc X) {a : Expr} {a' : DE} {pos : Pos} (ha : PE X a (rdE X W (evE call a'))) : PE X (.UnaryOp .USub a pos) (rdE X W (evE call (.neg a'))) := by
  refine PE.imp (pe_un un_neg ha) fun σ H Q hq => ?_
  refine rd1 (fr := false) (f := fun x S1 => match x with
    | .p (.int i) => .ok (.p (.int (-i))) S1
    | _ => .bad) hq fun x S F μ xa H' m r1 h => ?_
  simp only [Bool.false_eq_true, if_false] at h
  split at h
  · rename_i i
    cases (show xa = .int i from r1)
    exact ⟨i, rfl, (K1.frozen h).int m⟩
  · exact (show False from h).elim
theorem snd_notV (g : Gd ci call kl st W sc X) {a : Expr} {a' : DE} {pos : Pos} (ha : PE X a (rdE X W (evE call a'))) : PE X (.UnaryOp .Not a pos) (rdE X W (evE call (.not a'))) := by
  refine PE.imp (pe_not ha) fun σ H Q hq => ?_
  refine rd1 (fr := false) (r := fun x H1 Q => ∃ c, x = .bl c ∧ Q (.bl (!c)) H1) (f := fun x S1 => match x with
    | .p (.bl k) => .ok (.p (.bl (!k))) S1
    | _ => .bad) hq fun x S F μ xa H' m r1 h => ?_
  simp only [Bool.false_eq_true, if_false] at h
  split at h
  · rename_i i
    cases (show xa = .bl i from r1)
    exact ⟨i, rfl, (K1.frozen h).bl m⟩
  · exact (show False from h).elim
theorem snd_notT (g : Gd ci call kl st W sc X) {a : Expr} {a' : DE} {pos : Pos} (ha : PT X a (rdT X W (evT call a'))) : PT X (.UnaryOp .Not a pos) (rdT X W (evT call (.not a'))) := by
  refine PT.imp (pt_not ha) fun σ H Q hq => ?_
  obtain ⟨ρ, S, F, μ, ml, mh, h⟩ := hq
  have h : End X.K X.mg (WE W σ) μ RpT F ((evT call a' ρ S).bind fun k S1 => .ok (!k) S1) Q := h
  refine ⟨ρ, S, F, μ, ml, mh, h.split fun x S1 xa H1 F1 _ l1 m1 r1 h1 => ?_⟩
  cases (show x = xa from r1)
  exact h1 _ H1 F1 (Le.refl _) m1 rfl
theorem snd_ife (g : Gd ci call kl st W sc X) {c a b : Expr} {c' a' b' : DE} {pos : Pos} (hc : PT X c (rdT X W (evT call c'))) (ha : PE X a (rdE X W (evE call a'))) (hb : PE X b (rdE X W (evE call b'))) :
    PE X (.IfExp c a b pos) (rdE X W (evE call (.ife c' a' b'))) := by
  refine PE.imp (pe_ifExp hc ha hb) fun σ H Q hq => ?_
  obtain ⟨ρ, S, F, μ, ml, mh, h⟩ := hq
  have h : End X.K X.mg (WE W σ) μ (RpE X.K μ) F ((evT call c' ρ S).bind fun k S1 => if k = true then evE call a' ρ S1 else evE call b' ρ S1) Q := h
  refine ⟨ρ, S, F, μ, ml, mh, h.split fun x S1 xa H1 F1 _ l1 m1 r1 h1 => ?_⟩
  cases (show x = xa from r1)
  cases x with
  | true => exact ⟨ρ, S1, F1, μ, ml.mono l1, m1, h1⟩
  | false => exact ⟨ρ, S1, F1, μ, ml.mono l1, m1, h1⟩
theorem snd_ix (g : Gd ci call kl st W sc X) {a i : Expr} {a' i' : DE} {pos : Pos} (ha : PE X a (rdE X W (evE call a'))) (hi : PE X i (rdE X W (evE call i'))) (hp : PlainIx i) : PE X (.Subscript a i pos) (rdE X W (evE call (.ix a' i'))) := by
  refine PE.imp (pe_ix ix_ok ha hi hp) fun σ H Q hq => rd2 (fr := false) (f := fun x y S2 => match der S2 x, y with
    | some d, .p e => R.of ((ixD d e).map .p) S2
    | _, _ => .bad) hq fun x y S F μ xa yb H' m r1 r2 h => ?_
  cases e1 : der S x with
  | none => rw [e1] at h; exact (show False from h).elim
  | some d =>
    cases y with
    | c _ => rw [e1] at h; exact (show False from h).elim
    | p e =>
      rw [e1] at h
      cases e3 : ixD d e with
      | none => simp only [e3] at h; exact (show False from h).elim
      | some r =>
        simp only [e3] at h
        exact ⟨F, μ, S, d, e, r, m, der_rep m r1 e1, r2, e3, fun b hb => h b H' F (Le.refl _) m hb⟩
theorem snd_slice (g : Gd ci call kl st W sc X) {a : Expr} {lo hi : Option Expr} {a' : DE} {lo' hi' : Option DE} {p2 pos : Pos} (ha : PE X a (rdE X W (evE call a'))) (hl : PO X lo (rdO X W (evO call lo'))) (hh : PO X hi (rdO X W (evO call hi'))) :
    PE X (.Subscript a (.Slice lo hi none p2) pos) (rdF X W (evE call (.sl a' lo' hi'))) := by
  refine PE.imp (pe_slice sl_ok ha hl hh) fun σ H Q hq => ?_
  obtain ⟨ρ, S, F, μ, ml, mh, h⟩ := hq
  have h : End X.K X.mg (WE W σ) μ (RpF X.K μ) F ((evE call a' ρ S).bind fun x S1 => (evO call lo' ρ S1).bind fun l S2 => (evO call hi' ρ S2).bind fun h S3 => match der S3 x with
    | some d => R.of ((slD d l h).map .p) S3
    | none => .bad) Q := h
  refine ⟨ρ, S, F, μ, ml, mh, h.split fun x S1 xa H1 F1 _ l1 m1 r1 h1 => ?_⟩
  refine ⟨ρ, S1, F1, μ, ml.mono l1, m1, h1.split fun y S2 yb H2 F2 _ l2 m2 r2 h2 => ?_⟩
  refine ⟨ρ, S2, F2, μ, (ml.mono l1).mono l2, m2, h2.split fun z S3 zb H3 F3 _ l3 m3 r3 h3 => ?_⟩
  cases (show y = yb from r2)
  cases (show z = zb from r3)
  cases e1 : der S3 x with
  | none => rw [e1] at h3; exact (show False from h3).elim
  | some d =>
    rw [e1] at h3
    cases e3 : slD d y z with
    | none => simp only [e3] at h3; exact (show False from h3).elim
    | some r =>
      simp only [e3] at h3
      exact ⟨F3, μ, S3, d, r, m3, der_rep m3 ((r1.mono l2).mono l3) e1, e3, h3⟩
theorem snd_partS (g : Gd ci call kl st W sc X) {e : Expr} {e' : DE} (h : PE X e (rdE X W (evE call e'))) : PO X (some e) (rdO X W (evO call (some e'))) := by
  have p := po_some h
  refine ⟨fun pins s σ H Q I hq => p.run pins s σ H Q I ?_⟩
  obtain ⟨ρ, S, F, μ, ml, mh, h⟩ := hq
  have h : End X.K X.mg (WE W σ) μ RpO F ((evE call e' ρ S).bind fun v S1 => match v with
    | .p (.int i) => .ok (some i) S1
    | _ => .bad) Q := h
  refine ⟨ρ, S, F, μ, ml, mh, h.split fun x S1 xa H1 F1 _ l1 m1 r1 h1 => ?_⟩
  split at h1
  · rename_i _ i _
    cases (show xa = .int i from r1)
    exact ⟨i, rfl, h1 _ H1 F1 (Le.refl _) m1 rfl⟩
  · exact (show False from h1).elim
theorem snd_partN : PO X none (rdO X W (evO call none)) := by
  refine ⟨fun pins s σ H Q I hq => po_none.run pins s σ H Q I ?_⟩
  obtain ⟨ρ, S, F, μ, ml, mh, h⟩ := hq
  exact h _ H F (Le.refl _) mh rfl

/-! ### lists of expressions -/
/-- each of them, at one time -/
inductive SndL (X : Cx) (W : WX) (call : CallF) : List Expr → List DE → Prop
  | nil : SndL X W call [] []
  | cons {e : Expr} {es : List Expr} {e' : DE} {es' : List DE} (ns : ∀ a p, e ≠ .Starred a p) (h : PE X e (rdE X W (evE call e'))) (t : SndL X W call es es') : SndL X W call (e :: es) (e' :: es')
theorem SndL.star {env : Env} {es : List Expr} {es' : List DE} (h : SndL X W call es es') : starEach es env = es.map fun e => (false, eval e env) := by
  induction h with
  | nil => rfl
  | @cons e es e' es' ns h t ih =>
    rw [List.map_cons, ← ih]
    cases e <;> first | rfl | exact absurd rfl (ns _ _)
theorem SndL.length {es : List Expr} {es' : List DE} (h : SndL X W call es es') : es'.length = es.length := by
  induction h with
  | nil => rfl
  | cons _ _ _ ih => simp [ih]
theorem SndL.pa {es : List Expr} {es' : List DE} (h : SndL X W call es es') : PA X es (rdL X W (evL call es')) := by
  induction h with
  | nil =>
    refine PA.imp pa_nil fun σ H Q hq => ?_
    obtain ⟨ρ, S, F, μ, ml, mh, h⟩ := hq
    exact (show ∀ b H' F', _ → _ → _ → Q b H' from h) [] H F (Le.refl F) mh rfl
  | @cons e es e' es' ns h t ih =>
    refine PA.imp (pa_cons h ih (by rw [(SndL.cons ns h t).star, t.star, List.map_cons])) fun σ H Q hq => ?_
    obtain ⟨ρ, S, F, μ, ml, mh, h⟩ := hq
    have h : End X.K X.mg (WE W σ) μ (RpL X.K μ) F ((evE call e' ρ S).bind fun v S1 => (evL call es' ρ S1).bind fun vs S2 => .ok (v :: vs) S2) Q := h
    refine ⟨ρ, S, F, μ, ml, mh, h.split fun x S1 xa H1 F1 _ l1 m1 r1 h1 => ?_⟩
    refine ⟨ρ, S1, F1, μ, ml.mono l1, m1, h1.split fun y S2 yb H2 F2 _ l2 m2 r2 h2 => ?_⟩
    exact h2 _ H2 F2 (Le.refl _) m2 ⟨xa, yb, rfl, r1.mono l2, r2⟩
theorem SndL.any {env : Env} {es : List Expr} {es' : List DE} {pos : Pos} (h : SndL X W call es es') : (backTo pos (starEach es env)).any (·.1) = false := by
  rw [h.star]
  unfold backTo
  rw [List.any_eq_false]
  intro x hx
  simp only [List.map_map, List.mem_map] at hx
  obtain ⟨e, _, rfl⟩ := hx
  simp
theorem snd_tup (g : Gd ci call kl st W sc X) {es : List Expr} {es' : List DE} {k : Nat} {pos : Pos} (h : SndL X W call es es') (hz : es.length ≤ sizeLine) : PE X (.Tuple es k pos) (rdE X W (evE call (.tup es'))) := by
  refine PE.imp (pe_tup h.pa) fun σ H Q hq => ?_
  obtain ⟨ρ, S, F, μ, ml, mh, hh⟩ := hq
  have hh : End X.K X.mg (WE W σ) μ (RpE X.K μ) F ((evL call es' ρ S).bind fun vs S1 => match pures vs with
    | some ds => .ok (.p (.tup ds)) S1
    | none => .bad) Q := hh
  refine ⟨ρ, S, F, μ, ml, mh, hh.split fun x S1 xa H1 F1 e1 l1 m1 r1 h1 => ?_⟩
  cases e2 : pures x with
  | none => rw [e2] at h1; exact (show False from h1).elim
  | some ds =>
    rw [e2] at h1
    have r2 := r1.pures e2
    refine ⟨?_, h1.k1 (fr := false) |>.tup m1 r2⟩
    have hl : ∀ {es' : List DE} {ρ : Loc} {S : Store} {x : List Sv} {S1 : Store}, evL call es' ρ S = .ok x S1 → x.length = es'.length := by
      intro es'
      induction es' with
      | nil => intro ρ S x S1 e; simp [evL] at e; simp [e.1]
      | cons e es ih =>
        intro ρ S x S1 q
        simp only [evL] at q
        cases h1 : evE call e ρ S with
        | bad => rw [h1] at q; cases q
        | exc _ _ => rw [h1] at q; cases q
        | ok v S2 =>
          rw [h1] at q
          simp only [R.bind_ok] at q
          cases h2 : evL call es ρ S2 with
          | bad => rw [h2] at q; cases q
          | exc _ _ => rw [h2] at q; cases q
          | ok vs S3 =>
            rw [h2] at q
            simp only [R.bind_ok, R.ok.injEq] at q
            rw [← q.1, List.length_cons, ih h2, List.length_cons]
    rw [r1.length, hl e1, h.length]
    exact hz
theorem snd_lst (g : Gd ci call kl st W sc X) {es : List Expr} {es' : List DE} {pos : Pos} (h : SndL X W call es es') (hz : es.length ≤ sizeLine) : PE X (.List es pos) (rdF X W (evE call (.lst es'))) := by
  refine PE.imp (pe_lst h.pa) fun σ H Q hq => ?_
  obtain ⟨ρ, S, F, μ, ml, mh, hh⟩ := hq
  have hh : End X.K X.mg (WE W σ) μ (RpF X.K μ) F ((evL call es' ρ S).bind fun vs S1 => match pures vs with
    | some ds => .ok (.p (.lst ds)) S1
    | none => .bad) Q := hh
  refine ⟨ρ, S, F, μ, ml, mh, hh.split fun x S1 xa H1 F1 e1 l1 m1 r1 h1 => ?_⟩
  cases e2 : pures x with
  | none => rw [e2] at h1; exact (show False from h1).elim
  | some ds =>
    rw [e2] at h1
    have r2 := r1.pures e2
    refine ⟨?_, (End.k1 (fr := true) h1).lst m1 r2⟩
    have hl : ∀ {es' : List DE} {ρ : Loc} {S : Store} {x : List Sv} {S1 : Store}, evL call es' ρ S = .ok x S1 → x.length = es'.length := by
      intro es'
      induction es' with
      | nil => intro ρ S x S1 e; simp [evL] at e; simp [e.1]
      | cons e es ih =>
        intro ρ S x S1 q
        simp only [evL] at q
        cases h1 : evE call e ρ S with
        | bad => rw [h1] at q; cases q
        | exc _ _ => rw [h1] at q; cases q
        | ok v S2 =>
          rw [h1] at q
          simp only [R.bind_ok] at q
          cases h2 : evL call es ρ S2 with
          | bad => rw [h2] at q; cases q
          | exc _ _ => rw [h2] at q; cases q
          | ok vs S3 =>
            rw [h2] at q
            simp only [R.bind_ok, R.ok.injEq] at q
            rw [← q.1, List.length_cons, ih h2, List.length_cons]
    rw [r1.length, hl e1, h.length]
    exact hz

/-! ### calls -/
theorem End.mp {K : PySem.W.Frag} {mg : Str → Option Value} {E : XK} {μ : Fp} {F : Hp} {r : R Sv} {Q : VK} {fr : Bool} (h : End K mg E μ (if fr then RpF K μ else RpE K μ) F r Q) : End K mg E μ (if fr then RpF K μ else RpE K μ) F r Q := h
theorem snd_call (g : Gd ci call kl st W sc X) {f : Str} {ar : Nat} {fr : Bool} {es : List Expr} {es' : List DE} {p pos : Pos} (hg : isGlob sc f = true) (hl : ci.defs.lookup f = some (ar, fr)) (hn : es.length = ar) (h : SndL X W call es es') :
    PE X (.Call (.Name f p) es [] pos) (rd fr X W (evE call (.call f fr es'))) := by
  obtain ⟨a, fd, ps, h1, h2, h3, h4, h5⟩ := g.defs f ar fr hl
  obtain ⟨g1, g2⟩ := isGlob_gl g hg
  cases h with
  | nil =>
    refine ⟨fun pins s σ H Q I hq => ?_⟩
    refine wpAny_Call_Name_kw (ld_glob I g1 h1 ?_ g2)
    refine PySem.W.callWith_K0 I.kIn h3 (run_fnSD (us := []) h5 g.room h4 .nil (passAt g.tk σ) I .nil ?_)
    have hq' : ∃ ρ S F μ, Ml X.K σ ρ F μ ∧ Mh X.K H S F μ ∧ End X.K X.mg (WE W σ) μ (if fr then RpF X.K μ else RpE X.K μ) F (call f [] S) Q := by
      cases fr <;> exact hq
    obtain ⟨ρ, S, F, μ, ml, mh, hh⟩ := hq'
    exact ⟨F, μ, S, [], hn, mh, rfl, hh⟩
  | @cons e es e' es' ns he t =>
    have hL := SndL.cons ns he t
    refine PE.imp (pe_callSD h5 g.room g1 h1 h3 h4 .nil (fun σ => passAt g.tk σ) hL.pa g2 (by rw [hL.star, t.star, List.map_cons]) t.any) fun σ H Q hq => ?_
    have hq' : ∃ ρ S F μ, Ml X.K σ ρ F μ ∧ Mh X.K H S F μ ∧ End X.K X.mg (WE W σ) μ (if fr then RpF X.K μ else RpE X.K μ) F ((evL call (e' :: es') ρ S).bind fun vs S1 => call f vs S1) Q := by
      cases fr <;> exact hq
    obtain ⟨ρ, S, F, μ, ml, mh, hh⟩ := hq'
    refine ⟨ρ, S, F, μ, ml, mh, hh.split fun x S1 xa H1 F1 e1 l1 m1 r1 h1 => ?_⟩
    have hx : ∀ {es' : List DE} {ρ : Loc} {S : Store} {x : List Sv} {S1 : Store}, evL call es' ρ S = .ok x S1 → x.length = es'.length := by
      intro es'
      induction es' with
      | nil => intro ρ S x S1 e; simp [evL] at e; simp [e.1]
      | cons e es ih =>
        intro ρ S x S1 q
        simp only [evL] at q
        cases h1 : evE call e ρ S with
        | bad => rw [h1] at q; cases q
        | exc _ _ => rw [h1] at q; cases q
        | ok v S2 =>
          rw [h1] at q
          simp only [R.bind_ok] at q
          cases h2 : evL call es ρ S2 with
          | bad => rw [h2] at q; cases q
          | exc _ _ => rw [h2] at q; cases q
          | ok vs S3 =>
            rw [h2] at q
            simp only [R.bind_ok, R.ok.injEq] at q
            rw [← q.1, List.length_cons, ih h2, List.length_cons]
    have hlen := hx e1
    exact ⟨F1, μ, S1, x, by rw [hlen, hL.length, hn], m1, by rw [List.append_nil]; exact r1, h1⟩
theorem biTab_boot {f : Str} {b : Bi} (h : biTab.lookup f = some b) (hc : X.calm = true) (hu : X.A.units + 65 < cLine) :
    f ≠ "__name__" ∧ ((∃ id, bootBuiltins f = some (.builtin id) ∧ CallR X (.builtin id) (rBi X.K (biF b))) ∨ ∃ T, bootBuiltins f = some (.type T) ∧ CallR X (.type T) (rBi X.K (biF b))) := by
  have hm := PySem.mem_of_lookup h
  simp only [biTab, List.mem_cons, Prod.mk.injEq, List.not_mem_nil, or_false] at hm
  rcases hm with ⟨rfl, rfl⟩ | ⟨rfl, rfl⟩ | ⟨rfl, rfl⟩ | ⟨rfl, rfl⟩ | ⟨rfl, rfl⟩ | ⟨rfl, rfl⟩ | ⟨rfl, rfl⟩ | ⟨rfl, rfl⟩ | ⟨rfl, rfl⟩ | ⟨rfl, rfl⟩ | ⟨rfl, rfl⟩
  · exact ⟨by decide, .inl ⟨_, PySem.boot_len, bi_len⟩⟩
  · exact ⟨by decide, .inl ⟨_, boot_abs, bi_abs⟩⟩
  · exact ⟨by decide, .inl ⟨_, boot_max, bi_max hc⟩⟩
  · exact ⟨by decide, .inl ⟨_, boot_min, bi_min hc⟩⟩
  · exact ⟨by decide, .inl ⟨_, boot_sum, bi_sum hc⟩⟩
  · exact ⟨by decide, .inl ⟨_, boot_any, bi_any hc⟩⟩
  · exact ⟨by decide, .inl ⟨_, boot_all, bi_all hc⟩⟩
  · exact ⟨by decide, .inr ⟨_, PyProof.Rows.boot_int, bi_int⟩⟩
  · exact ⟨by decide, .inr ⟨_, boot_tuple, bi_tuple⟩⟩
  · exact ⟨by decide, .inr ⟨_, boot_list, bi_list⟩⟩
  · exact ⟨by decide, .inl ⟨_, boot_sorted, bi_sorted hu⟩⟩
theorem snd_biFin {b : Bi} {es' : List DE} {σ : L2.St} {H : Hp} {Q : VK} (hq : rd (frsh (.bi b es')) X W (evE call (.bi b es')) σ H Q) : tCB (rBi X.K (biF b)) (rdL X W (evL call es')) σ H Q := by
  have hq' : ∃ ρ S F μ, Ml X.K σ ρ F μ ∧ Mh X.K H S F μ ∧ End X.K X.mg (WE W σ) μ (if frsh (.bi b es') then RpF X.K μ else RpE X.K μ) F ((evL call es' ρ S).bind fun vs S1 => match ders S1 vs with
    | some ds => R.of ((biF b ds).map .p) S1
    | none => .bad) Q := by
    unfold rd at hq
    cases hfr : frsh (.bi b es') <;> rw [hfr] at hq <;> exact hq
  obtain ⟨ρ, S, F, μ, ml, mh, hh⟩ := hq'
  refine ⟨ρ, S, F, μ, ml, mh, hh.split fun x S1 xa H1 F1 e1 l1 m1 r1 h1 => ?_⟩
  cases e2 : ders S1 x with
  | none => rw [e2] at h1; exact (show False from h1).elim
  | some ds =>
    rw [e2] at h1
    cases e3 : biF b ds with
    | none => simp only [e3] at h1; exact (show False from h1).elim
    | some r =>
      simp only [e3] at h1
      exact ⟨F1, μ, S1, ds, r, m1, ders_rep m1 r1 e2, e3, End.k1 h1⟩
theorem snd_bi (g : Gd ci call kl st W sc X) {f : Str} {b : Bi} {es : List Expr} {es' : List DE} {p pos : Pos} (hg : isGlob sc f = true) (hb : f ∈ ci.bis) (hl : biTab.lookup f = some b) (hne : es ≠ []) (h : SndL X W call es es') :
    PE X (.Call (.Name f p) es [] pos) (rd (frsh (.bi b es')) X W (evE call (.bi b es'))) := by
  obtain ⟨g1, g2⟩ := isGlob_gl g hg
  obtain ⟨n1, hh⟩ := biTab_boot (X := X) hl g.calm g.hu
  cases h with
  | nil => exact absurd rfl hne
  | @cons e es e' es' ns he t =>
    have hL := SndL.cons ns he t
    rcases hh with ⟨id, b1, b2⟩ | ⟨T, b1, b2⟩
    · exact PE.imp (pe_callB b2 g1 (g.bis f hb) b1 hL.pa n1 g2 (by rw [hL.star, t.star, List.map_cons]) t.any) fun _ _ _ => snd_biFin
    · exact PE.imp (pe_callTy b2 g1 (g.bis f hb) b1 hL.pa n1 g2 (by rw [hL.star, t.star, List.map_cons]) t.any) fun _ _ _ => snd_biFin
theorem bi_gcd : CallR X (.builtin "math.gcd") (rBi X.K biGcd) := by
  intro pins s σ H vs us Q I r h
  obtain ⟨F, μ, S, ds, d, m, rs, e, k⟩ := h
  refine cr_gcd pins s σ H vs us Q I r ?_
  unfold biGcd at e
  split at e
  · rename_i i j
    cases e
    obtain ⟨x, y, rfl, h1, h2⟩ := rs.two
    exact ⟨i, j, by rw [show x = .int i from h1, show y = .int j from h2], k.int m⟩
  · cases e
theorem snd_gcd (g : Gd ci call kl st W sc X) {f : Str} {es : List Expr} {es' : List DE} {p pos : Pos} (hg : isGlob sc f = true) (hb : f ∈ ci.gcds) (hne : es ≠ []) (h : SndL X W call es es') :
    PE X (.Call (.Name f p) es [] pos) (rd (frsh (.bi .gcd es')) X W (evE call (.bi .gcd es'))) := by
  obtain ⟨g1, g2⟩ := isGlob_gl g hg
  cases h with
  | nil => exact absurd rfl hne
  | @cons e es e' es' ns he t =>
    have hL := SndL.cons ns he t
    exact PE.imp (pe_callBfun bi_gcd g1 (g.gcds f hb) hL.pa g2 (by rw [hL.star, t.star, List.map_cons]) t.any) fun _ _ _ => snd_biFin
theorem tyTab_boot {f : Str} {t : Ty} (h : tyTab.lookup f = some t) : f ≠ "__name__" ∧ bootBuiltins f = some (.type t.name) := by
  have hm := PySem.mem_of_lookup h
  simp only [tyTab, List.mem_cons, Prod.mk.injEq, List.not_mem_nil, or_false] at hm
  rcases hm with ⟨rfl, rfl⟩ | ⟨rfl, rfl⟩ | ⟨rfl, rfl⟩ | ⟨rfl, rfl⟩ | ⟨rfl, rfl⟩
  · exact ⟨by decide, PyProof.Rows.boot_int⟩
  · exact ⟨by decide, PyProof.Rows.boot_bool⟩
  · exact ⟨by decide, boot_str⟩
  · exact ⟨by decide, boot_tuple⟩
  · exact ⟨by decide, boot_list⟩
/-- isinstance(e, T), as a value and as a test's -/
theorem snd_isi (g : Gd ci call kl st W sc X) {T : Str} {t : Ty} {a : Expr} {a' : DE} {p q pos : Pos} (hg : isGlob sc "isinstance" = true) (hb : ("isinstance" : Str) ∈ ci.bis) (hgT : isGlob sc T = true) (hbT : T ∈ ci.bis) (ht : tyTab.lookup T = some t)
    (ns : ∀ b p, a ≠ .Starred b p) (ha : PE X a (rdE X W (evE call a'))) : PE X (.Call (.Name "isinstance" p) [a, .Name T q] [] pos) (rdE X W (evE call (.isi a' t))) := by
  obtain ⟨g1, g2⟩ := isGlob_gl g hg
  obtain ⟨g3, g4⟩ := isGlob_gl g hgT
  obtain ⟨n1, b1⟩ := tyTab_boot ht
  have hT : PE X (.Name T q) (tC (.ty t.name)) := pe_bltn g3 (g.bis T hbT) b1 rfl n1 g4
  have sa : starEach [a, .Name T q] X.env = (false, eval a X.env) :: starEach [.Name T q] X.env := by
    cases a <;> first | rfl | exact absurd rfl (ns _ _)
  have pa : PA X [a, .Name T q] (tCons (rdE X W (evE call a')) (tCons (tC (.ty t.name)) tNil)) := pa_cons ha (pa_cons hT pa_nil) sa
  refine ⟨fun pins s σ H Q I hq => ?_⟩
  refine wpAny_Call_Name_kw (ld_blt I g1 (g.bis _ hb) boot_isinstance ?_ (by decide) g2)
  obtain ⟨ρ, S, F, μ, ml, mh, h⟩ := hq
  have h : End X.K X.mg (WE W σ) μ (RpE X.K μ) F ((evE call a' ρ S).bind fun x S1 => match der S1 x with
    | some d => R.of ((isiD d t).map fun k => .p (.bl k)) S1
    | none => .bad) Q := h
  refine PyProof.Rows.callWith_builtin1 (thn (pa.run pos pins s σ H (fun vs H1 => ∃ x, vs = [x, .ty t.name] ∧ rIsiD X.K t x H1 Q) I ?_) fun us s1 ⟨vs, H1, I1, r1, x, ev, q1⟩ => ?_) sa (by rfl)
  · refine ⟨ρ, S, F, μ, ml, mh, h.split fun x S1 xa H1 F1 _ l1 m1 r1 h1 => ?_⟩
    refine ⟨xa, rfl, ?_⟩
    cases e1 : der S1 x with
    | none => rw [e1] at h1; exact (show False from h1).elim
    | some d =>
      rw [e1] at h1
      cases e3 : isiD d t with
      | none => simp only [e3] at h1; exact (show False from h1).elim
      | some r =>
        simp only [e3] at h1
        exact ⟨F1, μ, S1, d, r, m1, der_rep m1 r1 e1, e3, h1 _ H1 F1 (Le.refl _) m1 rfl⟩
  · subst ev
    obtain ⟨u1, u2, rfl, ra, rb⟩ := vals2 r1
    cases (show u2 = .type t.name from rb)
    exact isi_ok I1 ra q1
end
end DV

set_option Elab.async false
set_option linter.all false
set_option maxRecDepth 100000
set_option maxHeartbeats 4000000
/-! DV7: and, or; targets; what is walked; comprehensions; every compiled expression. -/
namespace DV
open PySem PySem.Spec PyProof.Rows L2
section
variable {ci : CI} {call : CallF} {kl : Nat} {st : Str → Bool} {W : WX} {sc : Scope} {X : Cx}

/-! ### and, or -/
inductive SndB (X : Cx) (W : WX) (call : CallF) : List Expr → List DE → Prop
  | nil : SndB X W call [] []
  | cons {e : Expr} {es : List Expr} {e' : DE} {es' : List DE} (h : PE X e (rdE X W (evE call e'))) (k : PT X e (rdT X W (evT call e'))) (t : SndB X W call es es') : SndB X W call (e :: es) (e' :: es')
theorem snd_boolsV {op : BoolOp} {pos : Pos} : ∀ {es : List Expr} {es' : List DE} {e' : DE}, SndB X W call es es' → bools op es' = some e' → PE X (.BoolOp op es pos) (rdE X W (evE call e'))
  | _, _, _, .nil, h => by cases h
  | [e], [a], _, .cons h _ .nil, hb => by
    cases hb
    exact pe_one h
  | e :: e2 :: es, a :: b :: r, _, .cons h _ t, hb => by
    simp only [bools, Option.map_eq_some_iff] at hb
    obtain ⟨t', ht, rfl⟩ := hb
    have ih := snd_boolsV (pos := pos) t ht
    cases op with
    | And =>
      refine PE.imp (pe_and h ih) fun σ H Q hq => ?_
      obtain ⟨ρ, S, F, μ, ml, mh, hh⟩ := hq
      have hh : End X.K X.mg (WE W σ) μ (RpE X.K μ) F ((evE call a ρ S).bind fun x S1 => match x with
        | .p (.bl true) => evE call t' ρ S1
        | .p (.bl false) => .ok (.p (.bl false)) S1
        | _ => .bad) Q := hh
      refine ⟨ρ, S, F, μ, ml, mh, hh.split fun x S1 xa H1 F1 _ l1 m1 r1 h1 => ?_⟩
      split at h1
      · cases (show xa = .bl true from r1)
        exact ⟨true, rfl, by rw [if_pos rfl]; exact ⟨ρ, S1, F1, μ, ml.mono l1, m1, h1⟩⟩
      · cases (show xa = .bl false from r1)
        exact ⟨false, rfl, by rw [if_neg (by decide)]; exact h1 _ H1 F1 (Le.refl _) m1 rfl⟩
      · exact (show False from h1).elim
    | Or =>
      refine PE.imp (pe_or h ih) fun σ H Q hq => ?_
      obtain ⟨ρ, S, F, μ, ml, mh, hh⟩ := hq
      have hh : End X.K X.mg (WE W σ) μ (RpE X.K μ) F ((evE call a ρ S).bind fun x S1 => match x with
        | .p (.bl true) => .ok (.p (.bl true)) S1
        | .p (.bl false) => evE call t' ρ S1
        | _ => .bad) Q := hh
      refine ⟨ρ, S, F, μ, ml, mh, hh.split fun x S1 xa H1 F1 _ l1 m1 r1 h1 => ?_⟩
      split at h1
      · cases (show xa = .bl true from r1)
        exact ⟨true, rfl, by rw [if_pos rfl]; exact h1 _ H1 F1 (Le.refl _) m1 rfl⟩
      · cases (show xa = .bl false from r1)
        exact ⟨false, rfl, by rw [if_neg (by decide)]; exact ⟨ρ, S1, F1, μ, ml.mono l1, m1, h1⟩⟩
      · exact (show False from h1).elim
theorem snd_boolsT {op : BoolOp} {pos : Pos} : ∀ {es : List Expr} {es' : List DE} {e' : DE}, SndB X W call es es' → bools op es' = some e' → PW X (.BoolOp op es pos) (rdT X W (evT call e'))
  | _, _, _, .nil, h => by cases h
  | [e], [a], _, .cons _ k .nil, hb => by
    cases hb
    cases op with
    | And => exact pw_and1 k
    | Or => exact pw_or1 k
  | e :: e2 :: es, a :: b :: r, _, .cons _ k t, hb => by
    simp only [bools, Option.map_eq_some_iff] at hb
    obtain ⟨t', ht, rfl⟩ := hb
    have ih := snd_boolsT (pos := pos) t ht
    cases op with
    | And =>
      refine PW.imp (pw_and k ih) fun σ H Q hq => ?_
      obtain ⟨ρ, S, F, μ, ml, mh, hh⟩ := hq
      have hh : End X.K X.mg (WE W σ) μ RpT F ((evT call a ρ S).bind fun k S1 => if k = true then evT call t' ρ S1 else .ok false S1) Q := hh
      refine ⟨ρ, S, F, μ, ml, mh, hh.split fun x S1 xa H1 F1 _ l1 m1 r1 h1 => ?_⟩
      cases (show x = xa from r1)
      cases x with
      | true => rw [if_pos rfl]; exact ⟨ρ, S1, F1, μ, ml.mono l1, m1, h1⟩
      | false => rw [if_neg (by decide)]; exact h1 _ H1 F1 (Le.refl _) m1 rfl
    | Or =>
      refine PW.imp (pw_or k ih) fun σ H Q hq => ?_
      obtain ⟨ρ, S, F, μ, ml, mh, hh⟩ := hq
      have hh : End X.K X.mg (WE W σ) μ RpT F ((evT call a ρ S).bind fun k S1 => if k = true then .ok true S1 else evT call t' ρ S1) Q := hh
      refine ⟨ρ, S, F, μ, ml, mh, hh.split fun x S1 xa H1 F1 _ l1 m1 r1 h1 => ?_⟩
      cases (show x = xa from r1)
      cases x with
      | true => rw [if_pos rfl]; exact h1 _ H1 F1 (Le.refl _) m1 rfl
      | false => rw [if_neg (by decide)]; exact ⟨ρ, S1, F1, μ, ml.mono l1, m1, h1⟩

/-! ### a value's truth -/
/-- forms whose test is their value's truth -/
def plainT : DE → Bool
  | .var _ => true | .con _ => true | .call .. => true | .bi .. => true | .isi .. => true | .ix .. => true | .bin .. => true
  | _ => false
theorem evT_plain {e : DE} (h : plainT e = true) (ρ : Loc) (S : Store) : evT call e ρ S = (evE call e ρ S).bind fun x S1 => R.of ((der S1 x).bind truD) S1 := by
  cases e <;> first
    | (simp [plainT] at h; done)
    | (simp only [evE, evT]; done)
    | skip
  case con d => rfl
  case bin op a b =>
    simp only [evE, evT]
    cases evE call a ρ S with
    | ok x S1 =>
      simp only [R.bind_ok]
      cases evE call b ρ S1 with
      | ok y S2 =>
        simp only [R.bind_ok]
        cases der S2 x with
        | none => rfl
        | some d =>
          cases der S2 y with
          | none => rfl
          | some e => dsimp only; cases binD op d e <;> rfl
      | exc _ _ => rfl
      | bad => rfl
    | exc _ _ => rfl
    | bad => rfl
  case ix a i =>
    simp only [evE, evT]
    cases evE call a ρ S with
    | ok x S1 =>
      simp only [R.bind_ok]
      cases evE call i ρ S1 with
      | ok y S2 =>
        simp only [R.bind_ok]
        cases der S2 x with
        | none => cases y <;> rfl
        | some d =>
          cases y with
          | c _ => rfl
          | p e => dsimp only; cases ixD d e <;> rfl
      | exc _ _ => rfl
      | bad => rfl
    | exc _ _ => rfl
    | bad => rfl
  case call x fr es =>
    simp only [evE, evT]
    cases evL call es ρ S <;> rfl
  case bi x es =>
    simp only [evE, evT]
    cases evL call es ρ S with
    | ok vs S1 =>
      simp only [R.bind_ok]
      cases ders S1 vs with
      | none => rfl
      | some ds => dsimp only; cases biF x ds <;> rfl
    | exc _ _ => rfl
    | bad => rfl
  case isi a T =>
    simp only [evE, evT]
    cases evE call a ρ S with
    | ok x S1 =>
      simp only [R.bind_ok]
      cases der S1 x with
      | none => rfl
      | some d => dsimp only; cases isiD d T <;> rfl
    | exc _ _ => rfl
    | bad => rfl
theorem snd_truth {e : Expr} {e' : DE} (hp : plainT e' = true) (h : PE X e (rdE X W (evE call e'))) (he : ∀ whole, isTrue e X.env whole = (do let v ← whole; standAt e.pos; holding [v] (truthy v))) : PT X e (rdT X W (evT call e')) := by
  refine PT.imp (pt_truth h he) fun σ H Q hq => ?_
  obtain ⟨ρ, S, F, μ, ml, mh, hh⟩ := hq
  rw [evT_plain hp] at hh
  refine ⟨ρ, S, F, μ, ml, mh, hh.split fun x S1 xa H1 F1 _ l1 m1 r1 h1 => ?_⟩
  obtain ⟨k, e1, h2⟩ := h1.of
  cases e2 : der S1 x with
  | none => rw [e2] at e1; cases e1
  | some d =>
    rw [e2] at e1
    exact ⟨k, tru_of m1 (der_rep m1 r1 e2) e1, h2 k H1 F1 (Le.refl _) m1 rfl⟩

/-! ### targets -/
theorem wipe_get {σ : L2.St} : ∀ {own : List Nat} {j : Nat}, (wipe σ own)[j]? = if j ∈ own then (if j < σ.length then some none else none) else σ[j]?
  | [], j => by simp [L2.wipe]
  | v :: vs, j => by
    unfold L2.wipe
    rw [List.getElem?_set]
    by_cases h : v = j
    · subst h
      simp only [if_true, List.mem_cons, true_or, wipe_length]
    · rw [if_neg h, wipe_get]
      have h' : ¬ j = v := fun e => h e.symm
      simp [List.mem_cons, h']
theorem wipe_set {σ : L2.St} {own : List Nat} {i : Nat} {x : Option V} (h : i ∈ own) : wipe (σ.set i x) own = wipe σ own := by
  apply List.ext_getElem?
  intro j
  rw [wipe_get, wipe_get, List.length_set, List.getElem?_set]
  by_cases hj : j ∈ own
  · simp [hj]
  · have : ¬ i = j := fun e => hj (e ▸ h)
    simp [hj, this]
theorem wipe_wipe {σ : L2.St} {own : List Nat} : wipe (wipe σ own) own = wipe σ own := by
  apply List.ext_getElem?
  intro j
  rw [wipe_get, wipe_get, wipe_length]
  by_cases hj : j ∈ own <;> simp [hj]
def rdG (X : Cx) (t : DT) : TG := fun x σ H Q => ∃ v ρ S F μ ρ', Ml X.K σ ρ F μ ∧ Mh X.K H S F μ ∧ RepS X.K F μ v x ∧ bindT t v ρ = some ρ' ∧
  ∀ σ', Ml X.K σ' ρ' F μ → (∀ own : List Nat, (∀ i ∈ t.slots, i ∈ own) → wipe σ' own = wipe σ own) → Q σ' H
def rdGs (X : Cx) (ts : List DT) : TGs := fun xs σ H Q => ∃ ds ρ S F μ ρ', Ml X.K σ ρ F μ ∧ Mh X.K H S F μ ∧ Reps X.K F ds xs ∧ bindTs ts ds ρ = some ρ' ∧
  ∀ σ', Ml X.K σ' ρ' F μ → (∀ own : List Nat, (∀ i ∈ DT.slotss ts, i ∈ own) → wipe σ' own = wipe σ own) → Q σ' H
theorem compT_star {n : Nat} {a : Expr} {p : Pos} : compT ci st n sc (.Starred a p) = none := by cases n <;> rfl
inductive SndG (X : Cx) : List Expr → List DT → Prop
  | nil : SndG X [] []
  | cons {e : Expr} {es : List Expr} {t : DT} {ts : List DT} (ns : ∀ a p, e ≠ .Starred a p) (h : PG X e (rdG X t)) (r : SndG X es ts) : SndG X (e :: es) (t :: ts)
theorem SndG.each {env : Env} {es : List Expr} {ts : List DT} (h : SndG X es ts) : assignEach es env = es.map fun e => (false, assign e env) := by
  induction h with
  | nil => rfl
  | @cons e es t ts ns h r ih =>
    rw [List.map_cons, ← ih]
    cases e <;> first | rfl | exact absurd rfl (ns _ _)
theorem SndG.length {es : List Expr} {ts : List DT} (h : SndG X es ts) : ts.length = es.length := by
  induction h with
  | nil => rfl
  | cons _ _ _ ih => simp [ih]
theorem SndG.pgs {es : List Expr} {ts : List DT} (h : SndG X es ts) : PGs X es (rdGs X ts) := by
  induction h with
  | nil =>
    refine ⟨fun pins s σ H vs us Q I r hq => pgs_nil.run pins s σ H vs us Q I r ?_⟩
    obtain ⟨ds, ρ, S, F, μ, ρ', ml, mh, rp, hb, k⟩ := hq
    cases ds with
    | cons d ds => simp [bindTs] at hb
    | nil =>
      cases rp
      simp [bindTs] at hb
      subst hb
      exact ⟨rfl, k σ ml fun own _ => rfl⟩
  | @cons e es t ts ns h r ih =>
    have hs : (assignEach (e :: es) X.env).map (·.2) = assign e X.env :: (assignEach es X.env).map (·.2) := by rw [(SndG.cons ns h r).each, r.each]; simp
    refine ⟨fun pins s σ H vs us Q I rr hq => (pgs_cons h ih hs).run pins s σ H vs us Q I rr ?_⟩
    obtain ⟨ds, ρ, S, F, μ, ρ', ml, mh, rp, hb, k⟩ := hq
    cases ds with
    | nil => simp [bindTs] at hb
    | cons d ds =>
      obtain ⟨v, vr, rfl, rp1, rp2⟩ := rp
      simp only [bindTs] at hb
      cases e1 : bindT t (.p d) ρ with
      | none => rw [e1] at hb; cases hb
      | some ρ1 =>
        rw [e1] at hb
        refine ⟨v, vr, rfl, .p d, ρ, S, F, μ, ρ1, ml, mh, rp1, e1, fun σ1 ml1 w1 => ?_⟩
        refine ⟨ds, ρ1, S, F, μ, ρ', ml1, mh, rp2, hb, fun σ2 ml2 w2 => k σ2 ml2 fun own hown => ?_⟩
        rw [w2 own fun i hi => hown i (by simp only [DT.slotss]; exact List.mem_append_right _ hi), w1 own fun i hi => hown i (by simp only [DT.slotss]; exact List.mem_append_left _ hi)]
theorem optAll_cons {α β : Type} {f : α → Option β} {a : α} {as : List α} {bs : List β} (h : optAll f (a :: as) = some bs) : ∃ b r, f a = some b ∧ optAll f as = some r ∧ bs = b :: r := by
  unfold optAll at h
  cases e : f a with
  | none => rw [e] at h; cases h
  | some b =>
    rw [e] at h
    simp only [Option.map_eq_some_iff] at h
    obtain ⟨r, h1, rfl⟩ := h
    exact ⟨b, r, rfl, h1, rfl⟩
theorem snd_T (g : Gd ci call kl st W sc X) : ∀ (n : Nat) {tg : Expr} {t : DT}, compT ci st n sc tg = some t → PG X tg (rdG X t)
  | 0, _, _, h => by cases h
  | n + 1, tg, t, h => by
    cases tg with
    | Name x pos =>
      simp only [compT] at h
      split at h
      · rename_i hx
        simp only [Option.map_eq_some_iff] at h
        obtain ⟨i, hi, rfl⟩ := h
        have hL : L2.Loc X.env.scope x := by
          rcases hx with hx | hx
          · exact .inl (by rw [g.sc]; exact hx)
          · exact .inr (by rw [g.sc]; exact hx.1)
        have hf : X.fn x = true ∨ X.env.scope.names.lookup x = some .local := by
          rcases hx with hx | hx
          · exact .inr (by rw [g.sc]; exact hx)
          · exact .inl (g.fn x hx.2)
        refine PG.imp (pg_name (i := i) g.nd (by rw [g.N]; exact ixOf_get hi) hL hf) fun v σ H Q hq => ?_
        obtain ⟨w, ρ, S, F, μ, ρ', ml, mh, rp, hb, k⟩ := hq
        simp only [bindT, Option.some.injEq] at hb
        subst hb
        exact k _ (ml.set rp) fun own hown => wipe_set (hown i (by simp [DT.slots]))
      · cases h
    | Tuple es k pos =>
      simp only [compT, Option.map_eq_some_iff] at h
      obtain ⟨ts, h1, rfl⟩ := h
      have all : ∀ {es : List Expr} {ts : List DT}, optAll (compT ci st n sc) es = some ts → SndG X es ts := by
        intro es
        induction es with
        | nil => intro ts q; cases q; exact .nil
        | cons e es ih =>
          intro ts q
          obtain ⟨b, r, q1, q2, rfl⟩ := optAll_cons q
          exact .cons (fun a p z => by rw [z, compT_star] at q1; cases q1) (snd_T g n q1) (ih q2)
      have G := all h1
      refine PG.imp (pg_tup (n := es.length) g.calm G.pgs (by rw [G.each]; simp) (by
        rw [G.each, List.findIdx?_eq_none_iff]
        intro x hx
        simp only [List.mem_map] at hx
        obtain ⟨e, _, rfl⟩ := hx
        rfl)) fun v σ H Q hq => ?_
      obtain ⟨w, ρ, S, F, μ, ρ', ml, mh, rp, hb, k⟩ := hq
      simp only [bindT] at hb
      split at hb
      · rename_i ds
        obtain ⟨a, vs, rfl, h2, h3⟩ := rp
        have hlen : ∀ {ts : List DT} {ds : List D} {ρ ρ' : Loc}, bindTs ts ds ρ = some ρ' → ds.length = ts.length := by
          intro ts
          induction ts with
          | nil => intro ds ρ ρ' q; cases ds with
            | nil => rfl
            | cons _ _ => simp [bindTs] at q
          | cons t ts ih => intro ds ρ ρ' q; cases ds with
            | nil => simp [bindTs] at q
            | cons d ds =>
              simp only [bindTs] at q
              split at q
              · simp [ih q]
              · cases q
        exact ⟨a, vs, rfl, mh.sub.sqT h2, by rw [h3.length, hlen hb, G.length], ds, ρ, S, F, μ, ρ', ml, mh, h3, hb, fun σ' ml' w' => k σ' ml' fun own ho => w' own fun i hi => ho i (by simpa [DT.slots] using hi)⟩
      · cases hb
    | _ => simp [compT] at h

/-! ### what is walked -/
def ItIs (K : PySem.W.Frag) (F : Hp) (μ : Fp) (ds : List D) (Wt : Watch) (J : It) : Prop :=
  ∀ (i : Nat) (H' : Hp) (S' : Store) (F' : Hp) (μ' : Fp), Le F F' → μ.pre μ' → Mh K H' S' F' μ' → watched Wt S' = true →
    (∀ d, ds[i]? = some d → J.go i H' ∧ ∀ x H'', J.yld i H' x H'' → ∃ F'', Le F' F'' ∧ Mh K H'' S' F'' μ' ∧ Rep K F'' d x) ∧ (i = ds.length → J.stop i H')
abbrev RpI (K : PySem.W.Frag) (μ : Fp) : Hp → Hp → List D × Watch → It → Prop := fun F _ dw J => ItIs K F μ dw.1 dw.2 J
def evI (call : CallF) (k : IK) (args : List DE) (ρ : Loc) (S : Store) : R (List D × Watch) := (evL call args ρ S).bind fun vs S1 => R.of (itemsOf k vs S1) S1
def rdI (X : Cx) (W : WX) (m : Loc → Store → R (List D × Watch)) : TI := fun σ H R => ∃ ρ S F μ, Ml X.K σ ρ F μ ∧ Mh X.K H S F μ ∧ End X.K X.mg (WE W σ) μ (RpI X.K μ) F (m ρ S) R
theorem PI.or {tg it : Expr} {w w' : TI} (h : PI X tg it w) (h' : PI X tg it w') : PI X tg it (fun σ H R => w σ H R ∨ w' σ H R) :=
  ⟨fun pins s σ H R I hw => hw.elim (h.run pins s σ H R I) (h'.run pins s σ H R I)⟩
/-- a list that is frozen, or a watched cell's, as it stands at a later time -/
theorem watch_cell {K : PySem.W.Frag} {H : Hp} {S S' : Store} {F : Hp} {μ μ' : Fp} {v : Sv} {x : V} {ds : List D} {H' F' : Hp} (m : Mh K H S F μ) (r : RepS K F μ v x) (e : der S v = some (.lst ds)) (l : Le F F') (pr : μ.pre μ') (m' : Mh K H' S' F' μ') (hw : watched (watchOf S v) S' = true) :
    ∃ a vs, x = .ref a ∧ H' a = some (.lst vs) ∧ Reps K F' ds vs := by
  cases v with
  | p d =>
    simp [der] at e; subst e
    obtain ⟨a, vs, rfl, h1, h2⟩ := r
    exact ⟨a, vs, rfl, m'.sub _ _ (l _ _ h1), h2.mono l⟩
  | c i =>
    obtain ⟨a, h1, rfl⟩ := r
    cases q : S[i]? with
    | none => simp [der, q] at e
    | some c =>
      cases c with
      | lst xs =>
        simp [der, q] at e
        subst e
        simp [watchOf, q, watched] at hw
        obtain ⟨vs, q1, q2⟩ := m'.cell i a _ (pr.get h1) hw
        exact ⟨a, vs, rfl, q1, q2⟩
theorem reps_none {K : PySem.W.Frag} {F : Hp} {ds : List D} {vs : List V} {i : Nat} (r : Reps K F ds vs) (h : i = ds.length) : vs.length ≤ i := by rw [r.length, h]; exact Nat.le_refl _
theorem isIt_lst {K : PySem.W.Frag} {H : Hp} {S : Store} {F : Hp} {μ : Fp} {v : Sv} {a : Addr} {ds : List D} (m : Mh K H S F μ) (r : RepS K F μ v (.ref a)) (e : der S v = some (.lst ds)) : ItIs K F μ ds (watchOf S v) (Itl K a) := by
  intro i H' S' F' μ' l pr m' hw
  obtain ⟨a', vs, e1, h1, h2⟩ := watch_cell m r e l pr m' hw
  cases e1
  refine ⟨fun d hd => ?_, fun hi => ⟨vs, .of h1, reps_none h2 hi⟩⟩
  obtain ⟨x, g1, g2⟩ := h2.get hd
  refine ⟨⟨vs, x, .of h1, g1⟩, fun y H'' hy => ?_⟩
  obtain ⟨rfl, hy⟩ := hy
  have := hy vs (.of h1)
  rw [g1] at this; cases this
  exact ⟨F', Le.refl _, m', g2⟩
theorem isIt_tup {K : PySem.W.Frag} {F : Hp} {μ : Fp} {a : Addr} {ds : List D} {vs : List V} (h : SqT K F a vs) (r : Reps K F ds vs) : ItIs K F μ ds [] (Itt K a) := by
  intro i H' S' F' μ' l pr m' hw
  have h1 := m'.sub.sqT (l.sqT h)
  have h2 := r.mono l
  refine ⟨fun d hd => ?_, fun hi => ⟨vs, h1, reps_none h2 hi⟩⟩
  obtain ⟨x, g1, g2⟩ := h2.get hd
  refine ⟨⟨vs, x, h1, g1⟩, fun y H'' hy => ?_⟩
  obtain ⟨rfl, hy⟩ := hy
  have := hy vs h1
  rw [g1] at this; cases this
  exact ⟨F', Le.refl _, m', g2⟩
theorem rngD_get {lo : Int} {n i : Nat} {d : D} (h : (rngD lo n)[i]? = some d) : i < n ∧ d = .int (lo + i) := by
  unfold rngD at h
  rw [List.getElem?_map] at h
  by_cases hi : i < n
  · rw [List.getElem?_range hi] at h
    simp at h
    exact ⟨hi, h.symm⟩
  · rw [List.getElem?_eq_none (by simpa using hi)] at h; cases h
theorem isIt_rng {K : PySem.W.Frag} {F : Hp} {μ : Fp} {lo : Int} {n : Nat} : ItIs K F μ (rngD lo n) [] (Itr lo n) := by
  intro i H' S' F' μ' l pr m' hw
  refine ⟨fun d hd => ?_, fun hi => ?_⟩
  · obtain ⟨h1, rfl⟩ := rngD_get hd
    refine ⟨h1, fun x H'' hy => ?_⟩
    obtain ⟨rfl, rfl⟩ := hy
    exact ⟨F', Le.refl _, m', rfl⟩
  · show n ≤ i
    rw [hi]; simp [rngD]
theorem rngDown_get {lo : Int} {n i : Nat} {d : D} (h : (rngDown lo n)[i]? = some d) : i < n ∧ d = .int (lo + (i : Nat) * (-1)) := by
  unfold rngDown at h
  rw [List.getElem?_map] at h
  by_cases hi : i < n
  · rw [List.getElem?_range hi] at h
    simp only [Option.map_some, Option.some.injEq] at h
    exact ⟨hi, h.symm⟩
  · rw [List.getElem?_eq_none (by simpa using hi)] at h; cases h
theorem isIt_down {K : PySem.W.Frag} {F : Hp} {μ : Fp} {lo : Int} {n : Nat} : ItIs K F μ (rngDown lo n) [] (Itc lo (-1) n) := by
  intro i H' S' F' μ' l pr m' hw
  refine ⟨fun d hd => ?_, fun hi => ?_⟩
  · obtain ⟨h1, rfl⟩ := rngDown_get hd
    refine ⟨h1, fun x H'' hy => ?_⟩
    obtain ⟨rfl, rfl⟩ := hy
    exact ⟨F', Le.refl _, m', rfl⟩
  · show n ≤ i
    rw [hi]; simp [rngDown]
theorem zipD_get {xs ys : List D} {i : Nat} {d : D} (h : (zipD xs ys)[i]? = some d) : ∃ x y, xs[i]? = some x ∧ ys[i]? = some y ∧ d = .tup [x, y] := by
  unfold zipD at h
  rw [List.getElem?_map] at h
  cases e : (xs.zip ys)[i]? with
  | none => rw [e] at h; cases h
  | some p =>
    rw [e] at h
    simp only [Option.map_some, Option.some.injEq] at h
    obtain ⟨x, y⟩ := p
    obtain ⟨h1, h2⟩ := List.getElem?_zip_eq_some.mp e
    exact ⟨x, y, h1, h2, h.symm⟩
theorem isIt_zipL {K : PySem.W.Frag} {H : Hp} {S : Store} {F : Hp} {μ : Fp} {v w : Sv} {a b : Addr} {ds es : List D} (m : Mh K H S F μ) (r : RepS K F μ v (.ref a)) (e : der S v = some (.lst ds)) (r' : RepS K F μ w (.ref b)) (e' : der S w = some (.lst es)) :
    ItIs K F μ (zipD ds es) (watchOf S v ++ watchOf S w) (Itz K a b) := by
  intro i H' S' F' μ' l pr m' hw
  have hw' : watched (watchOf S v) S' = true ∧ watched (watchOf S w) S' = true := by
    unfold watched at hw ⊢
    rw [List.all_append, Bool.and_eq_true] at hw
    exact hw
  obtain ⟨a', vs, e1, h1, h2⟩ := watch_cell m r e l pr m' hw'.1
  cases e1
  obtain ⟨b', ws, e1, h3, h4⟩ := watch_cell m r' e' l pr m' hw'.2
  cases e1
  refine ⟨fun d hd => ?_, fun hi => ?_⟩
  · obtain ⟨x, y, g1, g2, rfl⟩ := zipD_get hd
    obtain ⟨x', k1, k2⟩ := h2.get g1
    obtain ⟨y', k3, k4⟩ := h4.get g2
    refine ⟨⟨vs, ws, x', y', .of h1, .of h3, k1, k3⟩, fun z H'' hy => ?_⟩
    obtain ⟨T, x1, y1, rfl, hT, rfl, q1, q2⟩ := hy
    have p1 := q1 vs (.of h1)
    have p2 := q2 ws (.of h3)
    rw [k1] at p1; cases p1
    rw [k3] at p2; cases p2
    have hle := Le.upd (o := .tup [x', y']) (m'.noneF hT)
    exact ⟨upd F' T (.tup [x', y']), hle, m'.new hT, T, _, rfl, .of upd_same, Reps.cons (k2.mono hle) (Reps.cons (k4.mono hle) rfl)⟩
  · refine ⟨vs, ws, .of h1, .of h3, ?_⟩
    rw [h2.length, h4.length, hi]
    unfold zipD
    rw [List.length_map, List.length_zip]
    omega
theorem isIt_zipT {K : PySem.W.Frag} {F : Hp} {μ : Fp} {a b : Addr} {ds es : List D} {vs ws : List V} (h : SqT K F a vs) (r : Reps K F ds vs) (h' : SqT K F b ws) (r' : Reps K F es ws) : ItIs K F μ (zipD ds es) [] (RZ.ItzT K a b) := by
  intro i H' S' F' μ' l pr m' hw
  have h1 := m'.sub.sqT (l.sqT h)
  have h2 := r.mono l
  have h3 := m'.sub.sqT (l.sqT h')
  have h4 := r'.mono l
  refine ⟨fun d hd => ?_, fun hi => ?_⟩
  · obtain ⟨x, y, g1, g2, rfl⟩ := zipD_get hd
    obtain ⟨x', k1, k2⟩ := h2.get g1
    obtain ⟨y', k3, k4⟩ := h4.get g2
    refine ⟨⟨vs, ws, x', y', h1, h3, k1, k3⟩, fun z H'' hy => ?_⟩
    obtain ⟨T, x1, y1, rfl, hT, rfl, q1, q2⟩ := hy
    have p1 := q1 vs h1
    have p2 := q2 ws h3
    rw [k1] at p1; cases p1
    rw [k3] at p2; cases p2
    have hle := Le.upd (o := .tup [x', y']) (m'.noneF hT)
    exact ⟨upd F' T (.tup [x', y']), hle, m'.new hT, T, _, rfl, .of upd_same, Reps.cons (k2.mono hle) (Reps.cons (k4.mono hle) rfl)⟩
  · refine ⟨vs, ws, h1, h3, ?_⟩
    rw [h2.length, h4.length, hi]
    unfold zipD
    rw [List.length_map, List.length_zip]
    omega
theorem enumD_get {xs : List D} {i : Nat} {d : D} (h : (enumD xs)[i]? = some d) : ∃ x, xs[i]? = some x ∧ d = .tup [.int (i : Nat), x] := by
  unfold enumD at h
  rw [List.getElem?_map, List.getElem?_zipIdx] at h
  cases e : xs[i]? with
  | none => rw [e] at h; cases h
  | some x =>
    rw [e] at h
    simp only [Option.map_some, Option.some.injEq] at h
    refine ⟨x, rfl, ?_⟩
    rw [← h]
    simp
theorem isIt_enum {K : PySem.W.Frag} {H : Hp} {S : Store} {F : Hp} {μ : Fp} {v : Sv} {a : Addr} {ds : List D} (m : Mh K H S F μ) (r : RepS K F μ v (.ref a)) (e : der S v = some (.lst ds)) : ItIs K F μ (enumD ds) (watchOf S v) (Ite K a) := by
  intro i H' S' F' μ' l pr m' hw
  obtain ⟨a', vs, e1, h1, h2⟩ := watch_cell m r e l pr m' hw
  cases e1
  refine ⟨fun d hd => ?_, fun hi => ?_⟩
  · obtain ⟨x, g1, rfl⟩ := enumD_get hd
    obtain ⟨x', k1, k2⟩ := h2.get g1
    refine ⟨⟨vs, x', .of h1, k1⟩, fun z H'' hy => ?_⟩
    obtain ⟨T, x1, rfl, hT, rfl, q1⟩ := hy
    have p1 := q1 vs (.of h1)
    rw [k1] at p1; cases p1
    have hle := Le.upd (o := .tup [.int (i : Nat), x']) (m'.noneF hT)
    exact ⟨upd F' T (.tup [.int (i : Nat), x']), hle, m'.new hT, T, _, rfl, .of upd_same, Reps.cons rfl (Reps.cons (k2.mono hle) rfl)⟩
  · refine ⟨vs, .of h1, ?_⟩
    rw [h2.length, hi]
    simp [enumD]
end
end DV

set_option Elab.async false
set_option linter.all false
set_option maxRecDepth 100000
set_option maxHeartbeats 4000000
/-! DV8: iterables, comprehensions, every compiled expression. -/
namespace DV
open PySem PySem.Spec PyProof.Rows L2
section
variable {ci : CI} {call : CallF} {kl : Nat} {st : Str → Bool} {W : WX} {sc : Scope} {X : Cx}

theorem evL_length : ∀ {es' : List DE} {ρ : Loc} {S : Store} {x : List Sv} {S1 : Store}, evL call es' ρ S = .ok x S1 → x.length = es'.length := by
  intro es'
  induction es' with
  | nil => intro ρ S x S1 e; simp [evL] at e; simp [e.1]
  | cons e es ih =>
    intro ρ S x S1 q
    simp only [evL] at q
    cases h1 : evE call e ρ S with
    | bad => rw [h1] at q; cases q
    | exc _ _ => rw [h1] at q; cases q
    | ok v S2 =>
      rw [h1] at q
      simp only [R.bind_ok] at q
      cases h2 : evL call es ρ S2 with
      | bad => rw [h2] at q; cases q
      | exc _ _ => rw [h2] at q; cases q
      | ok vs S3 =>
        rw [h2] at q
        simp only [R.bind_ok, R.ok.injEq] at q
        rw [← q.1, List.length_cons, ih h2, List.length_cons]
theorem evL_one {e : DE} {ρ : Loc} {S : Store} : evL call [e] ρ S = (evE call e ρ S).bind fun v S1 => .ok [v] S1 := by
  simp only [evL]
  cases evE call e ρ S <;> rfl
theorem rdI_split {k : IK} {args : List DE} {σ : L2.St} {H : Hp} {Rr : It → Hp → Prop} {Q' : List V → Hp → Prop} (hq : rdI X W (evI call k args) σ H Rr)
    (kk : ∀ vs S μ F H' xs ds Wt, vs.length = args.length → Mh X.K H' S F μ → RepSs X.K F μ vs xs → itemsOf k vs S = some (ds, Wt) → (∀ J H'' F', Le F F' → Mh X.K H'' S F' μ → ItIs X.K F' μ ds Wt J → Rr J H'') → Q' xs H') : rdL X W (evL call args) σ H Q' := by
  obtain ⟨ρ, S, F, μ, ml, mh, hh⟩ := hq
  refine ⟨ρ, S, F, μ, ml, mh, hh.split fun vs S1 xs H1 F1 e1 l1 m1 r1 h1 => ?_⟩
  obtain ⟨⟨ds, Wt⟩, e2, h2⟩ := h1.of
  exact kk vs S1 μ F1 H1 xs ds Wt (evL_length e1) m1 r1 e2 fun J H'' F' l m it => h2 J H'' F' l m it
theorem snd_seq (g : Gd ci call kl st W sc X) {tg iter : Expr} {e' : DE} (h : PE X iter (rdE X W (evE call e'))) : PI X tg iter (rdI X W (evI call .seq [e'])) := by
  refine PI.imp (PI.or (pi_list h) (pi_tup h)) fun σ H Rr hq => ?_
  obtain ⟨ρ, S, F, μ, ml, mh, hh⟩ := hq
  have hh : End X.K X.mg (WE W σ) μ (RpI X.K μ) F ((evL call [e'] ρ S).bind fun vs S1 => R.of (itemsOf .seq vs S1) S1) Rr := hh
  rw [evL_one] at hh
  cases hr : evE call e' ρ S with
  | bad => rw [hr] at hh; exact (show False from hh).elim
  | exc x S1 =>
    rw [hr] at hh
    exact .inl ⟨ρ, S, F, μ, ml, mh, by rw [hr]; exact hh⟩
  | ok v S1 =>
    rw [hr] at hh
    obtain ⟨⟨ds, Wt⟩, e1, h2⟩ := End.of (show End _ _ _ _ _ _ (R.of (itemsOf .seq [v] S1) S1) Rr from hh)
    simp only [itemsOf] at e1
    cases e2 : der S1 v with
    | none => rw [e2] at e1; cases e1
    | some d =>
      rw [e2] at e1
      simp only [Option.bind_some, Option.map_eq_some_iff] at e1
      obtain ⟨xs, e3, e4⟩ := e1
      cases e4
      unfold seqOf at e3
      split at e3
      · cases e3
        refine .inl ⟨ρ, S, F, μ, ml, mh, ?_⟩
        rw [hr]
        intro x H1 F1 l1 m1 r1
        obtain ⟨a, vs, rfl, q1, q2⟩ := der_rep m1 r1 e2
        exact ⟨a, rfl, ⟨vs, .of q1⟩, h2 _ H1 F1 l1 m1 (isIt_lst m1 r1 e2)⟩
      · cases e3
        refine .inr ⟨ρ, S, F, μ, ml, mh, ?_⟩
        rw [hr]
        intro x H1 F1 l1 m1 r1
        obtain ⟨a, vs, rfl, q1, q2⟩ := der_rep m1 r1 e2
        have hw : watchOf S1 v = [] := by
          cases v with
          | p d => rfl
          | c i =>
            simp only [der] at e2
            split at e2 <;> cases e2
        have := isIt_tup (μ := μ) q1 q2
        rw [← hw] at this
        exact ⟨a, rfl, ⟨vs, m1.sub.sqT q1⟩, h2 _ H1 F1 l1 m1 this⟩
      · cases e3
theorem two_of_len {α : Type} {l : List α} (h : l.length = 2) : ∃ a b, l = [a, b] := by
  match l, h with
  | [a, b], _ => exact ⟨a, b, rfl⟩
theorem items_rng1 {v : Sv} {S : Store} {r : List D × Watch} (h : itemsOf .rng [v] S = some r) : ∃ j, v = .p (.int j) ∧ rngOK j ∧ r = (rngD 0 j.toNat, []) := by
  unfold itemsOf at h
  split at h
  · rename_i q _; cases q
  · rename_i j _ q
    cases q
    split at h
    · rename_i hj; cases h; exact ⟨j, rfl, hj, rfl⟩
    · cases h
  all_goals first | (rename_i q _; cases q; done) | (rename_i q; cases q; done) | cases h
theorem items_rng2 {v w : Sv} {S : Store} {r : List D × Watch} (h : itemsOf .rng [v, w] S = some r) : ∃ i j, v = .p (.int i) ∧ w = .p (.int j) ∧ rngOK i ∧ rngOK j ∧ r = (rngD i (j - i).toNat, []) := by
  unfold itemsOf at h
  split at h
  · rename_i q _; cases q
  · rename_i q; cases q
  · rename_i i j _ q
    cases q
    split at h
    · rename_i hj; cases h; exact ⟨i, j, rfl, rfl, hj.1, hj.2, rfl⟩
    · cases h
  all_goals first | (rename_i q _; cases q; done) | (rename_i q; cases q; done) | cases h
theorem items_rng3 {v w u : Sv} {S : Store} {r : List D × Watch} (h : itemsOf .rng [v, w, u] S = some r) : ∃ i j, v = .p (.int i) ∧ w = .p (.int j) ∧ u = .p (.int (-1)) ∧ rngOK i ∧ rngOK j ∧ r = (rngDown i (i - j).toNat, []) := by
  unfold itemsOf at h
  split at h
  · rename_i q _; cases q
  · rename_i q; cases q
  · rename_i q; cases q
  · rename_i i j c _ q
    cases q
    split at h
    · rename_i hj; obtain ⟨h1, h2, rfl⟩ := hj; cases h; exact ⟨i, j, rfl, rfl, rfl, h1, h2, rfl⟩
    · cases h
  all_goals first | (rename_i q _; cases q; done) | (rename_i q; cases q; done) | cases h
theorem snd_iter (g : Gd ci call kl st W sc X) {tg iter : Expr} {args' : List DE} (h : SndL X W call (iterK ci sc tg iter).2 args') : PI X tg iter (rdI X W (evI call (iterK ci sc tg iter).1 args')) := by
  have seq : ∀ {args' : List DE}, SndL X W call [iter] args' → PI X tg iter (rdI X W (evI call .seq args')) := fun {args'} h => by
    cases h with
    | cons ns h t => cases t; exact snd_seq g h
  unfold iterK at h ⊢
  split at h
  · rename_i f p args pos
    split at h
    · rename_i hc
      rw [if_pos hc]
      obtain ⟨g1, g2⟩ := isGlob_gl g hc.1
      have hm := g.bis f hc.2
      split at h
      · rename_i hf
        rw [if_pos hf]
        obtain ⟨rfl, hn1, hn3⟩ := hf
        have hlen := h.length
        match args, h, hn1, hn3 with
        | [], _, h1, _ => simp at h1
        | [a], h, _, _ =>
          refine PI.imp (pi_range1 g1 hm h.pa (by rw [h.star]; rfl)) fun σ H Rr hq => rdI_split hq fun vs S μ F H' xs ds Wt hl m r e k => ?_
          rw [h.length] at hl
          match vs, hl, r, e with
          | [v], _, r, e =>
            obtain ⟨x, _, rfl, r1, rfl⟩ := r
            obtain ⟨j, rfl, hj, e2⟩ := items_rng1 e
            cases e2
            cases (show x = .int j from r1)
            exact ⟨j, rfl, hj.1, hj.2, k _ H' F (Le.refl F) m isIt_rng⟩
        | [a, b], h, _, _ =>
          refine PI.imp (pi_range2 g1 hm h.pa (by rw [h.star]; rfl) (by cases h with | cons _ _ t => rw [t.star]; rfl)) fun σ H Rr hq => rdI_split hq fun vs S μ F H' xs ds Wt hl m r e k => ?_
          rw [h.length] at hl
          match vs, hl, r, e with
          | [v, w], _, r, e =>
            obtain ⟨x, _, rfl, r1, y, _, rfl, r2, rfl⟩ := r
            obtain ⟨i, j, rfl, rfl, hi, hj, e2⟩ := items_rng2 e
            cases e2
            cases (show x = .int i from r1)
            cases (show y = .int j from r2)
            exact ⟨i, j, rfl, ⟨hi.1, hi.2, hj.1, hj.2⟩, k _ H' F (Le.refl F) m isIt_rng⟩
        | [a, b, c], h, _, _ =>
          refine PI.imp (pi_range3 g1 hm h.pa (by rw [h.star]; cases h with | cons _ _ t => rw [t.star]; rfl) (by cases h with | cons _ _ t => exact t.any)) fun σ H Rr hq => rdI_split hq fun vs S μ F H' xs ds Wt hl m r e k => ?_
          rw [h.length] at hl
          match vs, hl, r, e with
          | [v, w, u], _, r, e =>
            obtain ⟨x, _, rfl, r1, y, _, rfl, r2, z, _, rfl, r3, rfl⟩ := r
            obtain ⟨i, j, rfl, rfl, rfl, hi, hj, e2⟩ := items_rng3 e
            cases e2
            cases (show x = .int i from r1)
            cases (show y = .int j from r2)
            cases (show z = .int (-1) from r3)
            exact ⟨i, j, -1, _, rfl, RgC.neg hi.1 hi.2 hj.1 hj.2, k _ H' F (Le.refl F) m isIt_down⟩
        | _ :: _ :: _ :: _ :: _, _, _, h3 => simp at h3
      · split at h
        · rename_i hf0 hf
          rw [if_neg hf0, if_pos hf]
          obtain ⟨rfl, ht, hn⟩ := hf
          cases tg with
          | Tuple elts kk tpos =>
            match args, h, hn with
            | [a, b], h, _ =>
              refine PI.imp (RZ.pi_zipA g1 hm h.pa (by rw [h.star]; cases h with | cons _ _ t => rw [t.star]; rfl) (by cases h with | cons _ _ t => exact t.any)) fun σ H Rr hq => rdI_split hq fun vs S μ F H' xs ds Wt hl m r e k => ?_
              rw [h.length] at hl
              match vs, hl, r, e with
              | [v, w], _, r, e =>
                obtain ⟨x, _, rfl, r1, y, _, rfl, r2, rfl⟩ := r
                simp only [itemsOf] at e
                split at e
                · rename_i xs ys e1 e2
                  cases e
                  obtain ⟨a, us, rfl, p1, p2⟩ := der_rep m r1 e1
                  obtain ⟨b, ws, rfl, p3, p4⟩ := der_rep m r2 e2
                  exact ⟨a, b, us, ws, rfl, .inl ⟨.of p1, .of p3, k _ H' F (Le.refl F) m (isIt_zipL m r1 e1 r2 e2)⟩⟩
                · rename_i xs ys e1 e2
                  cases e
                  obtain ⟨a, us, rfl, p1, p2⟩ := der_rep m r1 e1
                  obtain ⟨b, ws, rfl, p3, p4⟩ := der_rep m r2 e2
                  exact ⟨a, b, us, ws, rfl, .inr ⟨m.sub.sqT p1, m.sub.sqT p3, k _ H' F (Le.refl F) m (isIt_zipT p1 p2 p3 p4)⟩⟩
                · cases e
          | _ => simp [isTup] at ht
        · rename_i hf0 hf1
          split at h
          · rename_i hf
            rw [if_neg hf0, if_neg hf1, if_pos hf]
            obtain ⟨rfl, ht, hn⟩ := hf
            cases tg with
            | Tuple elts kk tpos =>
              match args, h, hn with
              | [a], h, _ =>
                refine PI.imp (pi_enum g1 hm h.pa (by rw [h.star]; rfl)) fun σ H Rr hq => rdI_split hq fun vs S μ F H' xs ds Wt hl m r e k => ?_
                rw [h.length] at hl
                match vs, hl, r, e with
                | [v], _, r, e =>
                  obtain ⟨x, _, rfl, r1, rfl⟩ := r
                  simp only [itemsOf] at e
                  split at e
                  · rename_i xs e1
                    cases e
                    obtain ⟨a, us, rfl, p1, p2⟩ := der_rep m r1 e1
                    exact ⟨a, us, rfl, .of p1, k _ H' F (Le.refl F) m (isIt_enum m r1 e1)⟩
                  · cases e
            | _ => simp [isTup] at ht
          · rename_i hf
            rw [if_neg hf0, if_neg hf1, if_neg hf]
            exact seq h
    · rename_i hc
      rw [if_neg hc]
      exact seq h
  · exact seq h

end
end DV

set_option Elab.async false
set_option linter.all false
set_option maxRecDepth 100000
set_option maxHeartbeats 4000000
/-! DV9: comprehensions, and every compiled expression. -/
namespace DV
open PySem PySem.Spec PyProof.Rows L2
section
variable {ci : CI} {call : CallF} {kl : Nat} {st : Str → Bool} {W : WX} {sc : Scope} {X : Cx}

theorem Gd.blk (g : Gd ci call kl st W sc X) (s : Shared) (H : Hp) (scope : Scope) (C : Addr) (cl : List (Str × Addr)) (fp : List Addr) :
    Gd ci call kl (fun x => decide (scope.names.lookup x = some .cell)) (fun _ _ _ _ => False) (relS scope sc) (X.blk s H scope (compEnvC scope cl C X.env) fp) where
  N := g.N
  nd := g.nd
  sc := by
    have e : (compEnvC scope cl C X.env).scope = relS scope X.env.scope := rfl
    show (compEnvC scope cl C X.env).scope = _
    rw [e, g.sc]
  calm := g.calm
  fn := fun x h => by
    show (scope.names.lookup x == some .cell) = true
    simpa using h
  tk := takes0
  room := g.room
  defs := g.defs
  bis := g.bis
  gcds := g.gcds
  consts := g.consts
theorem snd_ptsN : PTs X [] (rdT X W (evTs call [])) := by
  refine ⟨fun pins s σ H Q I hq => pts_nil.run pins s σ H Q I ?_⟩
  obtain ⟨ρ, S, F, μ, ml, mh, h⟩ := hq
  exact h true H F (Le.refl _) mh rfl
theorem snd_pts1 {c : Expr} {c' : DE} (h : PT X c (rdT X W (evT call c'))) : PTs X [c] (rdT X W (evTs call [c'])) := by
  refine ⟨fun pins s σ H Q I hq => (pts_one h).run pins s σ H Q I ?_⟩
  obtain ⟨ρ, S, F, μ, ml, mh, h⟩ := hq
  have h : End X.K X.mg (WE W σ) μ RpT F ((evT call c' ρ S).bind fun k S1 => if k = true then evTs call [] ρ S1 else .ok false S1) Q := h
  refine ⟨ρ, S, F, μ, ml, mh, h.split fun a S' b H' F' e l m rp k => ?_⟩
  cases (show a = b from rp)
  cases a with
  | true => exact k true H' F' (Le.refl _) m rfl
  | false => exact k false H' F' (Le.refl _) m rfl

/-! ### list comprehensions -/
/-- a turn -/
def lcTurn (call : CallF) (elt : DE) (tg : DT) (ifs : List DE) (own : List Nat) (ρ : Loc) (d : D) (S : Store) : R (Option D) :=
  match bindT tg (.p d) (wipeρ ρ own) with
  | none => .bad
  | some ρ' => (evTs call ifs ρ' S).bind fun t S1 => if t = true then (evE call elt ρ' S1).bind fun y S2 => (match y with
      | .p y => .ok (some y) S2
      | .c _ => .bad)
    else .ok none S1
theorem evE_lc {elt : DE} {tg : DT} {k : IK} {args ifs : List DE} {own : List Nat} {ρ : Loc} {S : Store} : evE call (.lc elt tg k args ifs own) ρ S =
    (evI call k args ρ S).bind fun dw S1 => (lcL (lcTurn call elt tg ifs own ρ) dw.2 dw.1 S1).bind fun r S2 => if r.length ≤ sizeLine then .ok (.p (.lst r)) S2 else .bad := by
  simp only [evE, evI]
  cases evL call args ρ S with
  | bad => rfl
  | exc _ _ => rfl
  | ok vs S1 =>
    simp only [R.bind_ok]
    cases itemsOf k vs S1 with
    | none => rfl
    | some dw => obtain ⟨ds, Wt⟩ := dw; rfl
theorem lcL_ok {f : D → Store → R (Option D)} {Wt : Watch} : ∀ {ds : List D} {S : Store}, (∃ r S', lcL f Wt ds S = .ok r S') ∨ lcL f Wt ds S = .bad
  | [], S => by
    unfold lcL
    cases watched Wt S with
    | true => exact .inl ⟨[], S, rfl⟩
    | false => exact .inr rfl
  | d :: ds, S => by
    unfold lcL
    cases watched Wt S with
    | false => exact .inr rfl
    | true =>
      simp only [if_true]
      cases f d S with
      | bad => exact .inr rfl
      | exc _ _ => exact .inr rfl
      | ok o S1 =>
        simp only [R.nox_ok, R.bind_ok]
        rcases lcL_ok (f := f) (Wt := Wt) (ds := ds) (S := S1) with ⟨r, S', e⟩ | e
        · rw [e]; exact .inl ⟨_, S', rfl⟩
        · rw [e]; exact .inr rfl
theorem lcL_cons {f : D → Store → R (Option D)} {Wt : Watch} {d : D} {ds : List D} {S S2 : Store} {r : List D} (h : lcL f Wt (d :: ds) S = .ok r S2) :
    watched Wt S = true ∧ ∃ o S1 r', f d S = .ok o S1 ∧ lcL f Wt ds S1 = .ok r' S2 ∧ r = (match o with | some y => y :: r' | none => r') := by
  unfold lcL at h
  cases hw : watched Wt S with
  | false => rw [hw] at h; cases h
  | true =>
    rw [hw] at h
    simp only [if_true] at h
    cases hf : f d S with
    | bad => rw [hf] at h; cases h
    | exc _ _ => rw [hf] at h; cases h
    | ok o S1 =>
      rw [hf] at h
      simp only [R.nox_ok, R.bind_ok] at h
      cases hL : lcL f Wt ds S1 with
      | bad => rw [hL] at h; cases h
      | exc _ _ => rw [hL] at h; cases h
      | ok r' S' =>
        rw [hL] at h
        simp only [R.bind_ok, R.ok.injEq] at h
        obtain ⟨h1, rfl⟩ := h
        exact ⟨rfl, o, S1, r', rfl, hL, h1.symm⟩
theorem lcL_nil {f : D → Store → R (Option D)} {Wt : Watch} {S S2 : Store} {r : List D} (h : lcL f Wt [] S = .ok r S2) : watched Wt S = true ∧ r = [] ∧ S = S2 := by
  unfold lcL at h
  cases hw : watched Wt S with
  | false => rw [hw] at h; cases h
  | true =>
    rw [hw] at h
    simp only [if_true, R.ok.injEq] at h
    exact ⟨rfl, h.1.symm, h.2⟩
/-- the guarded list is changed, and let go -/
theorem Mh.reguard {K : PySem.W.Frag} {H : Hp} {S : Store} {F : Hp} {cs : List Addr} {P : Hp} {D : Addr} {o o' : HO} (m : Mh K H S F ⟨cs, upd P D o⟩) (hP : P D = none) : Mh K (upd H D o') S F ⟨cs, P⟩ := by
  obtain ⟨g1, g2⟩ := m.gf D o upd_same
  refine ⟨fun a u e => ?_, m.mlen, fun i a c e1 e2 => ?_, m.nd, m.off, fun a u e => ?_, fun a u e => ?_⟩
  · have ne : a ≠ D := fun z => by rw [z, g1] at e; cases e
    rw [upd_ne ne]; exact m.sub a u e
  · have q := m.cell i a c e1 e2
    have ne : a ≠ D := fun z => g2 (z ▸ List.mem_iff_getElem?.mpr ⟨i, e1⟩)
    cases c with
    | lst ds =>
      obtain ⟨vs, q1, q2⟩ := q
      exact ⟨vs, by rw [upd_ne ne]; exact q1, q2⟩
  · have ne : a ≠ D := fun z => by have e : P a = some u := e; rw [z, hP] at e; cases e
    rw [upd_ne ne]
    exact m.gd a u (by show upd P D o a = _; rw [upd_ne ne]; exact e)
  · have ne : a ≠ D := fun z => by have e : P a = some u := e; rw [z, hP] at e; cases e
    exact m.gf a u (by show upd P D o a = _; rw [upd_ne ne]; exact e)
theorem Mh.unguard {K : PySem.W.Frag} {H : Hp} {S : Store} {F : Hp} {cs : List Addr} {P : Hp} {D : Addr} {o : HO} (m : Mh K H S F ⟨cs, upd P D o⟩) (hP : P D = none) : Mh K H S F ⟨cs, P⟩ := by
  refine m.guard (fun a u e => ?_) fun a u e => ?_
  · have ne : a ≠ D := fun z => by rw [z, hP] at e; cases e
    exact m.gd a u (by show upd P D o a = _; rw [upd_ne ne]; exact e)
  · have ne : a ≠ D := fun z => by rw [z, hP] at e; cases e
    exact m.gf a u (by show upd P D o a = _; rw [upd_ne ne]; exact e)
theorem snd_lc (g : Gd ci call kl st W sc X) {elt tg iter : Expr} {ifs : List Expr} {scope : Scope} {own : List (Str × Nat)} {pos : Pos} {k : IK} {args' ifs' : List DE} {elt' : DE} {tg' : DT}
    (ok : BlkOk X.N X.env.scope scope own) (hslots : ∀ i ∈ tg'.slots, i ∈ own.map (·.2)) (hi : PI X tg iter (rdI X W (evI call k args'))) (hs : ∀ x, foldedSetIterable iter X.env x = pure x)
    (hg : ∀ (s : Shared) (H : Hp) (C : Addr) (cl : List (Str × Addr)) (fp : List Addr), PG (X.blk s H scope (compEnvC scope cl C X.env) fp) tg (rdG X tg'))
    (ht : ∀ (s : Shared) (H : Hp) (C : Addr) (cl : List (Str × Addr)) (fp : List Addr), PTs (X.blk s H scope (compEnvC scope cl C X.env) fp) ifs (rdT X (fun _ _ _ _ => False) (evTs call ifs')))
    (he : ∀ (s : Shared) (H : Hp) (C : Addr) (cl : List (Str × Addr)) (fp : List Addr), PE (X.blk s H scope (compEnvC scope cl C X.env) fp) elt (rdE X (fun _ _ _ _ => False) (evE call elt'))) {σ : L2.St} {H : Hp} {Q : VK}
    (hq : rdF X W (evE call (.lc elt' tg' k args' ifs' (own.map (·.2)))) σ H Q) :
    tLc (rdI X W (evI call k args')) (rdG X tg') (rdT X (fun _ _ _ _ => False) (evTs call ifs')) (rdE X (fun _ _ _ _ => False) (evE call elt')) (own.map (·.2)) σ H Q := by
  obtain ⟨ρ, S, F, μ, ml, mh, hh⟩ := hq
  rw [evE_lc] at hh
  refine ⟨ρ, S, F, μ, ml, mh, hh.split fun dw S1 J H1 F1 e1 l1 m1 it h1 D hD => ?_⟩
  obtain ⟨ds, Wt⟩ := dw
  generalize hT : lcTurn call elt' tg' ifs' (own.map (·.2)) ρ = turn at h1
  rcases lcL_ok (f := turn) (Wt := Wt) (ds := ds) (S := S1) with ⟨Rs, S2, hL⟩ | hL
  · simp only [hL, R.bind_ok] at h1
    by_cases hz : Rs.length ≤ sizeLine
    · rw [if_pos hz] at h1
      have hnc := m1.notin hD
      have hnP := m1.noneP hD
      refine ⟨fun i m Hc => m = ds.length - i ∧ i ≤ ds.length ∧ ∃ r0 rest vs S' F', lcL turn Wt (ds.drop i) S' = .ok rest S2 ∧ r0 ++ rest = Rs ∧ Le F1 F' ∧ Mh X.K Hc S' F' μ ∧ F' D = none ∧ Hc D = some (.lst vs) ∧ Reps X.K F' r0 vs,
        ⟨ds.length, by simp, Nat.zero_le _, [], Rs, [], S1, F1, by rw [List.drop_zero]; exact hL, rfl, Le.refl _, m1.grow hD, m1.noneF hD, upd_same, rfl⟩, fun i m Hc hW => ?_⟩
      obtain ⟨rfl, hi', r0, rest, vs, S', F', hrun, hR, lF, mc, hFD, hDc, rep⟩ := hW
      by_cases hlt : i < ds.length
      · right
        have hdrop : ds.drop i = ds[i] :: ds.drop (i + 1) := List.drop_eq_getElem_cons hlt
        rw [hdrop] at hrun
        obtain ⟨hw, o, Sb, r', hf, hrun', hrest⟩ := lcL_cons hrun
        have mD : Mh X.K Hc S' F' ⟨μ.cs, upd μ.P D (.lst vs)⟩ := by
          refine mc.guard (fun a u e => ?_) fun a u e => ?_
          · by_cases ha : a = D
            · subst ha; rw [upd_same] at e; cases e; exact hDc
            · rw [upd_ne ha] at e; exact mc.gd a u e
          · by_cases ha : a = D
            · subst ha; exact ⟨hFD, hnc⟩
            · rw [upd_ne ha] at e; exact mc.gf a u e
        obtain ⟨hgo, hy⟩ := (it i Hc S' F' ⟨μ.cs, upd μ.P D (.lst vs)⟩ lF ⟨[], by simp⟩ mD hw).1 ds[i] (List.getElem?_eq_getElem hlt)
        refine ⟨hgo, fun H' => ∃ r0 rest vs S' F', lcL turn Wt (ds.drop (i + 1)) S' = .ok rest S2 ∧ r0 ++ rest = Rs ∧ Le F1 F' ∧ Mh X.K H' S' F' μ ∧ F' D = none ∧ H' D = some (.lst vs) ∧ Reps X.K F' r0 vs,
          fun H' h => ⟨ds.length - (i + 1), by omega, rfl, hlt, h⟩, fun x H2 hyx => ?_⟩
        obtain ⟨F2, l2, m2, rx⟩ := hy x H2 hyx
        rw [← hT] at hf
        unfold lcTurn at hf
        cases hb : bindT tg' (.p ds[i]) (wipeρ ρ (own.map (·.2))) with
        | none => rw [hb] at hf; cases hf
        | some ρ' =>
          rw [hb] at hf
          dsimp only at hf
          refine ⟨.p ds[i], wipeρ ρ (own.map (·.2)), S', F2, ⟨μ.cs, upd μ.P D (.lst vs)⟩, ρ', (((ml.mono l1).mono lF).mono l2).wipe _ |>.pre ⟨[], by simp⟩, m2, rx, hb, fun σ2 ml2 w2 => ⟨by rw [w2 _ hslots, wipe_wipe], ?_⟩⟩
          cases hts : evTs call ifs' ρ' S' with
          | bad => rw [hts] at hf; cases hf
          | exc _ _ => rw [hts] at hf; cases hf
          | ok t Sa =>
            rw [hts] at hf
            simp only [R.bind_ok] at hf
            refine ⟨ρ', S', F2, ⟨μ.cs, upd μ.P D (.lst vs)⟩, ml2, m2, ?_⟩
            rw [hts]
            intro b H3 F3 l3 m3 eb
            cases (show t = b from eb)
            cases t with
            | false =>
              rw [if_neg (by decide)] at hf ⊢
              cases hf
              refine ⟨r0, r', vs, _, F3, hrun', by rw [← hR, hrest], (lF.trans l2).trans l3, m3.unguard hnP, (m3.gf D _ upd_same).1, m3.gd D _ upd_same, rep.mono (l2.trans l3)⟩
            | true =>
              rw [if_pos rfl] at hf ⊢
              cases hee : evE call elt' ρ' Sa with
              | bad => rw [hee] at hf; cases hf
              | exc _ _ => rw [hee] at hf; cases hf
              | ok y Sc =>
                rw [hee] at hf
                simp only [R.bind_ok] at hf
                cases y with
                | c _ => cases hf
                | p y =>
                  cases hf
                  refine ⟨ρ', Sa, F3, ⟨μ.cs, upd μ.P D (.lst vs)⟩, ml2.mono l3, m3, ?_⟩
                  rw [hee]
                  intro yv H4 F4 l4 m4 ry
                  have hl4 := (l2.trans l3).trans l4
                  refine ⟨vs, m4.gd D _ upd_same, ?_, r0 ++ [y], r', vs ++ [yv], _, F4, hrun', by rw [← hR, hrest]; simp, lF.trans hl4, m4.reguard hnP, (m4.gf D _ upd_same).1, upd_same, (rep.mono hl4).append (Reps.cons ry rfl)⟩
                  rw [rep.length]
                  have : Rs.length = r0.length + (r'.length + 1) := by rw [← hR, hrest]; simp
                  omega
      · left
        have e : i = ds.length := by omega
        subst e
        rw [List.drop_length] at hrun
        obtain ⟨hw, rfl, rfl⟩ := lcL_nil hrun
        refine ⟨(it _ Hc _ F' μ lF (Fp.pre.refl _) mc hw).2 rfl, ?_⟩
        rw [List.append_nil] at hR
        subst hR
        exact h1 _ Hc F' lF mc ⟨D, vs, rfl, hDc, hFD, hnc, hnP, rep⟩
    · rw [if_neg hz] at h1; exact (show False from h1).elim
  · simp only [hL, R.bind_bad] at h1
    exact (show False from h1).elim

/-! ### every compiled expression -/
theorem compE_star {n : Nat} {a : Expr} {p : Pos} : compE ci n sc (.Starred a p) = none := by cases n <;> rfl
theorem compE_set {n : Nat} {es : List Expr} {k : Nat} {p : Pos} : compE ci n sc (.Set es k p) = none := by cases n <;> rfl
theorem compE_slice {n : Nat} {a b c : Option Expr} {p : Pos} : compE ci n sc (.Slice a b c p) = none := by cases n <;> rfl
theorem folded_of {e : Expr} {env : Env} (h : ∀ es k p, e ≠ .Set es k p) : ∀ x, foldedSetIterable e env x = pure x := fun x => by
  cases e <;> first | rfl | exact absurd rfl (h _ _ _)
theorem optAll_sndL {n : Nat} (ih : ∀ {e : Expr} {e' : DE}, compE ci n sc e = some e' → PE X e (rdE X W (evE call e'))) : ∀ {es : List Expr} {es' : List DE}, optAll (compE ci n sc) es = some es' → SndL X W call es es'
  | [], _, h => by cases h; exact .nil
  | e :: es, _, h => by
    obtain ⟨b, r, h1, h2, rfl⟩ := optAll_cons h
    exact .cons (fun a p z => by rw [z, compE_star] at h1; cases h1) (ih h1) (optAll_sndL ih h2)
theorem plainIx_of {i : Expr} (h : ∀ a b c p, i ≠ .Slice a b c p) : PlainIx i := fun o v => by
  cases i <;> first | rfl | exact absurd rfl (h _ _ _ _)
theorem bools_frsh {op : BoolOp} : ∀ {es : List DE} {e : DE}, bools op es = some e → frsh e = false ∨ ∃ a, es = [a]
  | [], _, h => by cases h
  | [a], _, _ => .inr ⟨a, rfl⟩
  | a :: b :: r, _, h => by
    simp only [bools, Option.map_eq_some_iff] at h
    obtain ⟨t, _, rfl⟩ := h
    cases op <;> exact .inl rfl
theorem snd_E : ∀ (n : Nat) (sc : Scope) (st : Str → Bool) (W : WX) (X : Cx), Gd ci call kl st W sc X → ∀ (e : Expr) (e' : DE), compE ci n sc e = some e' →
    PE X e (rd (frsh e') X W (evE call e')) ∧ PT X e (rdT X W (evT call e'))
  | 0, _, _, _, _, _, _, _, h => by cases h
  | n + 1, sc, st, W, X, g, e, e', h => by
    have ih : ∀ {e : Expr} {e' : DE}, compE ci n sc e = some e' → PE X e (rdE X W (evE call e')) := fun {e e'} h => PE.frz (snd_E n sc st W X g e e' h).1
    have ihT : ∀ {e : Expr} {e' : DE}, compE ci n sc e = some e' → PT X e (rdT X W (evT call e')) := fun {e e'} h => (snd_E n sc st W X g e e' h).2
    have bad : ∀ {e : Expr} {e' : DE}, (∀ ρ S, evT call e' ρ S = .bad) → PT X e (rdT X W (evT call e')) := fun {e e'} hb => ⟨fun pins s σ H Q I hq => by
      obtain ⟨ρ, S, F, μ, ml, mh, hh⟩ := hq
      rw [hb] at hh
      exact (show False from hh).elim⟩
    cases e with
    | Name x pos =>
      have k := snd_name g (pos := pos) (show ci.nm sc x = some e' from h)
      have hf : frsh e' = false ∧ plainT e' = true := by
        have h' : ci.nm sc x = some e' := h
        unfold CI.nm at h'
        split at h'
        · cases h'
        · split at h' <;> first | (cases h'; done) | (simp only [Option.map_eq_some_iff] at h'; obtain ⟨_, _, rfl⟩ := h'; exact ⟨rfl, rfl⟩)
      rw [hf.1]
      exact ⟨k, snd_truth hf.2 k (by intro _; rfl)⟩
    | Constant c k pos =>
      have fin : ∀ {d : D}, PE X (.Constant c k pos) (rdE X W (evE call (.con d))) → PE X (.Constant c k pos) (rd (frsh (.con d)) X W (evE call (.con d))) ∧ PT X (.Constant c k pos) (rdT X W (evT call (.con d))) := fun {d} hp => ⟨hp, snd_truth rfl hp (by intro _; rfl)⟩
      have cst : ∀ {d : D} {v : V}, PE X (.Constant c k pos) (tC v) → (∀ F, Rep X.K F d v) → PE X (.Constant c k pos) (rdE X W (evE call (.con d))) := fun {d v} hp hr => PE.imp hp fun σ H Q hq => by
        obtain ⟨ρ, S, F, μ, ml, mh, hh⟩ := hq
        exact (show ∀ b H' F', _ → _ → _ → Q b H' from hh) v H F (Le.refl _) mh (hr F)
      simp only [compE] at h
      split at h
      · cases h; exact fin (cst pe_int fun _ => rfl)
      · cases h; exact fin (cst pe_bl fun _ => rfl)
      · cases h; exact fin (cst pe_non fun _ => rfl)
      · cases h; exact fin (cst pe_str fun _ => rfl)
      · cases h
    | BinOp a op b pos =>
      simp only [compE, Option.bind_eq_some_iff, Option.map_eq_some_iff] at h
      obtain ⟨a', ha, b', hb, rfl⟩ := h
      have k := snd_bin g (op := op) (pos := pos) (ih ha) (ih hb)
      exact ⟨k, snd_truth rfl (PE.frz k) (by intro _; rfl)⟩
    | UnaryOp op a pos =>
      simp only [compE] at h
      split at h
      · simp only [Option.map_eq_some_iff] at h
        obtain ⟨a', ha, rfl⟩ := h
        exact ⟨snd_neg g (ih ha), bad fun _ _ => rfl⟩
      · simp only [Option.map_eq_some_iff] at h
        obtain ⟨a', ha, rfl⟩ := h
        exact ⟨snd_notV g (ih ha), snd_notT g (ihT ha)⟩
      · cases h
    | Compare a ops cs pos =>
      simp only [compE] at h
      split at h
      · split at h
        · cases h
        · rename_i hm
          simp only [Option.bind_eq_some_iff, Option.map_eq_some_iff] at h
          obtain ⟨a', ha, b', hb, rfl⟩ := h
          exact snd_cmp g (by simpa using hm) (ih ha) (ih hb)
      · split at h
        · cases h
        · rename_i hm
          simp only [Option.bind_eq_some_iff, Option.map_eq_some_iff] at h
          obtain ⟨a', ha, b', hb, c', hc, rfl⟩ := h
          exact snd_chain g (by simpa using hm) (ih ha) (ih hb) (ih hc)
      · cases h
    | BoolOp op vs pos =>
      simp only [compE, Option.bind_eq_some_iff] at h
      obtain ⟨vs', h1, h2⟩ := h
      have all : ∀ {es : List Expr} {es' : List DE}, optAll (compE ci n sc) es = some es' → SndB X W call es es' := by
        intro es
        induction es with
        | nil => intro es' q; cases q; exact .nil
        | cons e es ihl =>
          intro es' q
          obtain ⟨b, r, q1, q2, rfl⟩ := optAll_cons q
          exact .cons (ih q1) (ihT q1) (ihl q2)
      have hB := all h1
      have kV := snd_boolsV (pos := pos) hB h2
      have kT := (snd_boolsT (pos := pos) hB h2).pt
      rcases bools_frsh h2 with hf | ⟨a', rfl⟩
      · rw [hf]; exact ⟨kV, kT⟩
      · cases vs with
        | nil => cases h1
        | cons e es =>
          obtain ⟨b, r, q1, q2, q3⟩ := optAll_cons h1
          cases q3
          cases es with
          | cons e2 es => obtain ⟨_, _, _, _, q4⟩ := optAll_cons q2; cases q4
          | nil =>
            cases h2
            exact ⟨pe_one (snd_E n sc st W X g e _ q1).1, kT⟩
    | IfExp c a b pos =>
      simp only [compE, Option.bind_eq_some_iff, Option.map_eq_some_iff] at h
      obtain ⟨c', hc, a', ha, b', hb, rfl⟩ := h
      exact ⟨snd_ife g (ihT hc) (ih ha) (ih hb), bad fun _ _ => rfl⟩
    | Tuple es k pos =>
      simp only [compE] at h
      split at h
      · rename_i hz
        simp only [Option.map_eq_some_iff] at h
        obtain ⟨es', h1, rfl⟩ := h
        exact ⟨snd_tup g (optAll_sndL ih h1) (Nat.le_of_lt (small1000 hz)), bad fun _ _ => rfl⟩
      · cases h
    | List es pos =>
      simp only [compE] at h
      split at h
      · rename_i hz
        simp only [Option.map_eq_some_iff] at h
        obtain ⟨es', h1, rfl⟩ := h
        exact ⟨snd_lst g (optAll_sndL ih h1) (Nat.le_of_lt (small1000 hz)), bad fun _ _ => rfl⟩
      · cases h
    | Subscript a i pos =>
      simp only [compE] at h
      split at h
      · rename_i lo hi p
        simp only [Option.bind_eq_some_iff, Option.map_eq_some_iff] at h
        obtain ⟨a', ha, lo', hlo, hi', hhi, rfl⟩ := h
        have pl : PO X lo (rdO X W (evO call lo')) := by
          cases lo with
          | none => cases hlo; exact snd_partN
          | some l =>
            simp only [Option.map_eq_some_iff] at hlo
            obtain ⟨l', hl, rfl⟩ := hlo
            exact snd_partS g (ih hl)
        have ph : PO X hi (rdO X W (evO call hi')) := by
          cases hi with
          | none => cases hhi; exact snd_partN
          | some l =>
            simp only [Option.map_eq_some_iff] at hhi
            obtain ⟨l', hl, rfl⟩ := hhi
            exact snd_partS g (ih hl)
        exact ⟨snd_slice g (ih ha) pl ph, bad fun _ _ => rfl⟩
      · rename_i hns
        simp only [Option.bind_eq_some_iff, Option.map_eq_some_iff] at h
        obtain ⟨a', ha, i', hi, rfl⟩ := h
        have k := snd_ix g (pos := pos) (ih ha) (ih hi) (plainIx_of fun a b c p z => by rw [z, compE_slice] at hi; cases hi)
        exact ⟨k, snd_truth rfl k (by intro _; rfl)⟩
    | Call f args kws pos =>
      simp only [compE] at h
      split at h
      · rename_i f p
        split at h
        · rename_i hg
          split at h
          · rename_i ar fr hl
            split at h
            · rename_i hn
              simp only [Option.map_eq_some_iff] at h
              obtain ⟨es', h1, rfl⟩ := h
              have k := snd_call g (p := p) (pos := pos) hg hl hn (optAll_sndL ih h1)
              exact ⟨k, snd_truth rfl (PE.frz k) (by intro _; rfl)⟩
            · cases h
          · split at h
            · rename_i hb
              split at h
              · rename_i hf
                subst hf
                split at h
                · rename_i a T q
                  split at h
                  · rename_i hc
                    simp only [Option.bind_eq_some_iff, Option.map_eq_some_iff] at h
                    obtain ⟨t, ht, a', ha, rfl⟩ := h
                    have k := snd_isi g (p := p) (q := q) (pos := pos) hg hb hc.1 hc.2 ht (fun b p z => by rw [z, compE_star] at ha; cases ha) (ih ha)
                    exact ⟨k, snd_truth rfl k (by intro _; rfl)⟩
                  · cases h
                · cases h
              · simp only [Option.bind_eq_some_iff] at h
                obtain ⟨b, hl, h⟩ := h
                split at h
                · rename_i hn
                  simp only [Option.map_eq_some_iff] at h
                  obtain ⟨es', h1, rfl⟩ := h
                  have k := snd_bi g (p := p) (pos := pos) hg hb hl hn (optAll_sndL ih h1)
                  exact ⟨k, snd_truth rfl (PE.frz k) (by intro _; rfl)⟩
                · cases h
            · split at h
              · rename_i hb
                simp only [Option.map_eq_some_iff] at h
                obtain ⟨es', h1, rfl⟩ := h
                have k := snd_gcd g (p := p) (pos := pos) hg hb.1 hb.2 (optAll_sndL ih h1)
                exact ⟨k, snd_truth rfl (PE.frz k) (by intro _; rfl)⟩
              · cases h
        · cases h
      · cases h
    | ListComp elt gens scope pos =>
      simp only [compE] at h
      split at h
      · rename_i tg iter ifs
        split at h
        · rename_i hblk
          simp only [Option.bind_eq_some_iff] at h
          obtain ⟨tg', htg, h⟩ := h
          split at h
          · rename_i hsl
            simp only [Option.bind_eq_some_iff, Option.map_eq_some_iff] at h
            obtain ⟨args', hargs, ifs', hifs, elt', helt, rfl⟩ := h
            have ok : BlkOk X.N X.env.scope scope (ownOf ci.N scope) := by rw [g.N, g.sc]; exact blkOk_by hblk.1
            have hsl' : ∀ i ∈ tg'.slots, i ∈ (ownOf ci.N scope).map (·.2) := fun i hi => by
              have := List.all_eq_true.mp hsl i hi
              simpa using this
            have hi := snd_iter g (tg := tg) (iter := iter) (optAll_sndL ih hargs)
            have hns : ∀ es k p, iter ≠ .Set es k p := fun es k p z => by
              subst z
              have : optAll (compE ci n sc) [.Set es k p] = some args' := hargs
              obtain ⟨b, r, q1, _, _⟩ := optAll_cons this
              rw [compE_set] at q1; cases q1
            have G' := fun (s : Shared) (H : Hp) (C : Addr) (cl : List (Str × Addr)) (fp : List Addr) => g.blk s H scope C cl fp
            have hpt : ∀ (s : Shared) (H : Hp) (C : Addr) (cl : List (Str × Addr)) (fp : List Addr), PTs (X.blk s H scope (compEnvC scope cl C X.env) fp) ifs (rdT (X.blk s H scope (compEnvC scope cl C X.env) fp) (fun _ _ _ _ => False) (evTs call ifs')) := fun s H C cl fp => by
              match ifs, hifs, hblk.2 with
              | [], hifs, _ => cases hifs; exact snd_ptsN
              | [c], hifs, _ =>
                obtain ⟨b, r, q1, q2, rfl⟩ := optAll_cons hifs
                cases q2
                exact snd_pts1 (snd_E n _ _ _ _ (G' s H C cl fp) c b q1).2
              | _ :: _ :: _, _, hl => simp at hl
            exact ⟨PE.imp (pe_lc g.calm g.nd hi ok (fun s H C cl fp => snd_T (G' s H C cl fp) n htg) hpt (fun s H C cl fp => PE.frz (snd_E n _ _ _ _ (G' s H C cl fp) elt elt' helt).1) (folded_of hns)) fun σ H Q hq => snd_lc g (pos := pos) ok hsl' hi (folded_of hns) (fun s H C cl fp => snd_T (G' s H C cl fp) n htg) hpt (fun s H C cl fp => PE.frz (snd_E n _ _ _ _ (G' s H C cl fp) elt elt' helt).1) hq, bad fun _ _ => rfl⟩
          · cases h
        · cases h
      · cases h
    | _ => simp [compE] at h
end
end DV

set_option Elab.async false
set_option linter.all false
set_option maxRecDepth 100000
set_option maxHeartbeats 4000000
/-! DV10: statements. -/
namespace DV
open PySem PySem.Spec PyProof.Rows L2

/-! ### from the text's statements to the intermediate form -/
def isStar : Expr → Bool
  | .Starred .. => true
  | _ => false
def nmAt (sc : Scope) (line : Nat) : Expr → Option Str
  | .Name id pos => if (sc.names.lookup id == some .local && pos.line == line) = true then some id else none
  | _ => none
/-- how a, b = x, y is stored: none: not known; some none: as a tuple; some names: name by name -/
def swapOf (sc : Scope) (ts vs : List Expr) : Option (Option (List Str)) :=
  if (!(ts.length == 2 || ts.length == 3) || vs.length != ts.length || sc.kind != .function) = true then none
  else if (vs.any isStar) = true then none
  else
    let names := ts.filterMap (nmAt sc ((ts.head?.map (·.pos.line)).getD 0))
    if (names.length != ts.length || names.eraseDups.length != names.length) = true then some none
    else if (vs.all (foldedForSure 8)) = true then some none
    else if (vs.all (constantsAlone 8)) = true then none
    else some (some names)
def isSlice : Expr → Bool
  | .Slice .. => true
  | _ => false
def isLC : Expr → Bool
  | .ListComp .. => true | .SetComp .. => true | .DictComp .. => true
  | _ => false
def isNameE : Expr → Bool
  | .Name .. => true
  | _ => false
structure SI where
  marks : List Str
  fr : Bool
def anyCell : Str → Bool := fun _ => true
def nmOf (ci : CI) (sc : Scope) (x : Str) : Option Nat := if sc.names.lookup x = some .local ∨ sc.names.lookup x = some .cell then ixOf ci.N x else none
def locs (ci : CI) (sc : Scope) : List Expr → Option (List Nat) := optAll fun
  | .Name x _ => if sc.names.lookup x = some .local then ixOf ci.N x else none
  | _ => none
def compS (ci : CI) (si : SI) : Nat → Scope → Stmt → Option DS
  | 0, _, _ => none
  | n + 1, sc, s => match s with
    | .Assign tgs e _ => (match tgs with
      | [tg] => (match tg with
        | .Name x _ => (nmOf ci sc x).bind fun i => (compE ci n sc e).map fun e' => if x ∈ si.marks ∧ frsh e' = true then .new i e' else .asg (.name i) e'
        | .Tuple ts _ _ => (match e with
          | .Tuple vs _ _ => (match swapOf sc ts vs with
            | none => none
            | some none => (compT ci anyCell n sc tg).bind fun t => (compE ci n sc e).map fun e' => .asg t e'
            | some (some _) => (locs ci sc ts).bind fun is => if is.Nodup then (optAll (compE ci n sc) vs).map fun es => .par is es else none)
          | e => (compT ci anyCell n sc tg).bind fun t => (compE ci n sc e).map fun e' => .asg t e')
        | .Subscript a i _ => if isSlice i = true then none else (compE ci n sc e).bind fun e' => (compE ci n sc a).bind fun a' => (compE ci n sc i).map fun i' => .setix a' i' e'
        | _ => none)
      | _ => none)
    | .AugAssign tg op e _ => (match tg, op with
      | .Name x _, .Add => (nmOf ci sc x).bind fun i => (compE ci n sc e).map fun e' => .aug i .Add e'
      | .Name x _, .Sub => (nmOf ci sc x).bind fun i => (compE ci n sc e).map fun e' => .aug i .Sub e'
      | _, _ => none)
    | .Expr e pos => (match e with
      | .Call (.Attribute o nm apos) [a] [] cpos => if nm = "append" ∧ (apos.endLine == cpos.line) = true ∧ isNameE o = true then (compE ci n sc o).bind fun o' => (compE ci n sc a).map fun a' => .app o' a' else none
      | e => if isLC e = true then none else (compE ci n sc e).map .expr)
    | .Return e _ => (match e with
      | none => some .retN
      | some e => (compE ci n sc e).map fun e' => if si.fr = true then .retF e' else .ret e')
    | .If c a b _ => (compE ci n sc c).bind fun c' => (optAll (compS ci si n sc) a).bind fun a' => (optAll (compS ci si n sc) b).map fun b' => .ife c' a' b'
    | .For tg iter body orelse _ => (match orelse with
      | [] => (compT ci anyCell n sc tg).bind fun t => (optAll (compE ci n sc) (iterK ci sc tg iter).2).bind fun args => (optAll (compS ci si n sc) body).map fun b => .for t (iterK ci sc tg iter).1 args b
      | _ => none)
    | .While c body orelse _ => (match orelse with
      | [] => (compE ci n sc c).bind fun c' => (optAll (compS ci si n sc) body).map fun b => .while c' b
      | _ => none)
    | .Pass _ => some .pass
    | .Break _ => some .brk
    | .Continue _ => some .cont
    | .Raise _ _ _ => some .never
    | _ => none

/-! ### what is wanted behind a statement -/
def EndS (X : Cx) (W : WX) (fr : Bool) (μ : Fp) (F : Hp) (r : SR) (D : Ends) : Prop :=
  match r with
  | .nx ρ S => ∀ σ' H' F' μ', Le F F' → μ.pre μ' → μ'.P = μ.P → Ml X.K σ' ρ F' μ' → Mh X.K H' S F' μ' → D.nx σ' H'
  | .bk ρ S => ∀ σ' H' F' μ', Le F F' → μ.pre μ' → μ'.P = μ.P → Ml X.K σ' ρ F' μ' → Mh X.K H' S F' μ' → D.bk σ' H'
  | .ct ρ S => ∀ σ' H' F' μ', Le F F' → μ.pre μ' → μ'.P = μ.P → Ml X.K σ' ρ F' μ' → Mh X.K H' S F' μ' → D.ct σ' H'
  | .ret v S => ∀ b H' F' μ', Le F F' → μ.pre μ' → μ'.P = μ.P → Mh X.K H' S F' μ' → (if fr then RepF X.K μ' F' H' v b else RepS X.K F' μ' v b) → D.rt b H'
  | .exc e ρ S => ∀ σ' H' F' μ' cls d, Le F F' → μ.pre μ' → μ'.P = μ.P → Ml X.K σ' ρ F' μ' → Mh X.K H' S F' μ' → XcIs X.mg F' e cls d → W cls d σ' H'
  | .bad => False
def rdS (X : Cx) (W : WX) (fr : Bool) (m : Loc → Store → SR) : TS := fun D σ H => ∃ ρ S F μ, Ml X.K σ ρ F μ ∧ Mh X.K H S F μ ∧ EndS X W fr μ F (m ρ S) D
section
variable {X : Cx} {W : WX} {fr : Bool} {μ μ1 : Fp} {F G : Hp} {D D' : Ends}
theorem EndS.mono {r : SR} (h : EndS X W fr μ F r D) (l : Le F G) (p : μ.pre μ1) (e : μ1.P = μ.P) : EndS X W fr μ1 G r D := by
  cases r with
  | nx ρ S => exact fun σ' H' F' μ' l' p' e' => h σ' H' F' μ' (l.trans l') (p.trans p') (e'.trans e)
  | bk ρ S => exact fun σ' H' F' μ' l' p' e' => h σ' H' F' μ' (l.trans l') (p.trans p') (e'.trans e)
  | ct ρ S => exact fun σ' H' F' μ' l' p' e' => h σ' H' F' μ' (l.trans l') (p.trans p') (e'.trans e)
  | ret v S => exact fun b H' F' μ' l' p' e' => h b H' F' μ' (l.trans l') (p.trans p') (e'.trans e)
  | exc x ρ S => exact fun σ' H' F' μ' cls d l' p' e' => h σ' H' F' μ' cls d (l.trans l') (p.trans p') (e'.trans e)
  | bad => exact h
/-- behind an expression -/
theorem EndS.split {α β : Type} {RpA : Hp → Hp → α → β → Prop} {r : R α} {ρ : Loc} {f : α → Store → SR} {σ : L2.St} {Q' : β → Hp → Prop} (h : EndS X W fr μ F (r.st ρ f) D) (ml : Ml X.K σ ρ F μ)
    (k : ∀ a S' b H' F', r = .ok a S' → Le F F' → Mh X.K H' S' F' μ → RpA F' H' a b → EndS X W fr μ F' (f a S') D → Q' b H') : End X.K X.mg (WE W σ) μ RpA F r Q' := by
  cases r with
  | ok a S => exact fun b H' F' l m rp => k a S b H' F' rfl l m rp (h.mono l (Fp.pre.refl _) rfl)
  | exc e S => exact fun H' F' cls d l m x => h σ H' F' μ cls d l (Fp.pre.refl _) rfl (ml.mono l) m x
  | bad => exact h
theorem EndS.seq {r : SR} {f : Loc → Store → SR} (h : EndS X W fr μ F (r.seq f) D) (k : ∀ ρ' S' σ' H' F' μ', Le F F' → μ.pre μ' → μ'.P = μ.P → Ml X.K σ' ρ' F' μ' → Mh X.K H' S' F' μ' → EndS X W fr μ' F' (f ρ' S') D → D'.nx σ' H') (hr : D'.rt = D.rt) (hb : D'.bk = D.bk) (hc : D'.ct = D.ct) :
    EndS X W fr μ F r D' := by
  cases r with
  | nx ρ S => exact fun σ' H' F' μ' l p e ml mh => k ρ S σ' H' F' μ' l p e ml mh (EndS.mono (show EndS X W fr μ F (f ρ S) D from h) l p e)
  | bk ρ S => exact fun σ' H' F' μ' l p e ml mh => by rw [hb]; exact h σ' H' F' μ' l p e ml mh
  | ct ρ S => exact fun σ' H' F' μ' l p e ml mh => by rw [hc]; exact h σ' H' F' μ' l p e ml mh
  | ret v S => exact fun b H' F' μ' l p e mh rp => by rw [hr]; exact h b H' F' μ' l p e mh rp
  | exc x ρ S => exact h
  | bad => exact h
theorem EndS.turn {r : SR} {f : Loc → Store → SR} (h : EndS X W fr μ F (r.turn f) D) (k : ∀ ρ' S' σ' H' F' μ', Le F F' → μ.pre μ' → μ'.P = μ.P → Ml X.K σ' ρ' F' μ' → Mh X.K H' S' F' μ' → EndS X W fr μ' F' (f ρ' S') D → D'.nx σ' H' ∧ D'.ct σ' H') (hr : D'.rt = D.rt) (hb : D'.bk = D.nx) :
    EndS X W fr μ F r D' := by
  cases r with
  | nx ρ S => exact fun σ' H' F' μ' l p e ml mh => (k ρ S σ' H' F' μ' l p e ml mh (EndS.mono (show EndS X W fr μ F (f ρ S) D from h) l p e)).1
  | ct ρ S => exact fun σ' H' F' μ' l p e ml mh => (k ρ S σ' H' F' μ' l p e ml mh (EndS.mono (show EndS X W fr μ F (f ρ S) D from h) l p e)).2
  | bk ρ S => exact fun σ' H' F' μ' l p e ml mh => by rw [hb]; exact h σ' H' F' μ' l p e ml mh
  | ret v S => exact fun b H' F' μ' l p e mh rp => by rw [hr]; exact h b H' F' μ' l p e mh rp
  | exc x ρ S => exact h
  | bad => exact h
theorem PS.imp {s : Stmt} {t t' : TS} (h : PS X s t) (k : ∀ D σ H, t' D σ H → t D σ H) : PS X s t' := ⟨fun pins s σ H D I hw => h.run pins s σ H D I (k _ _ _ hw)⟩
theorem PSs.imp {s : List Stmt} {t t' : TS} (h : PSs X s t) (k : ∀ D σ H, t' D σ H → t D σ H) : PSs X s t' := ⟨fun pins s σ H D I hw => h.run pins s σ H D I (k _ _ _ hw)⟩
end

structure GdS (ci : CI) (call : CallF) (kl : Nat) (W : WX) (sc : Scope) (X : Cx) : Prop where
  g : Gd ci call kl anyCell W sc X
  own : PassesOwn (model X.prog X.w) X.A X.env X.xe
  kind : sc.kind = .function
section
variable {ci : CI} {si : SI} {call : CallF} {wf kl : Nat} {W : WX} {sc : Scope} {X : Cx}

theorem nmOf_loc (g : Gd ci call kl anyCell W sc X) {x : Str} {i : Nat} (h : nmOf ci sc x = some i) : X.N[i]? = some x ∧ L2.Loc X.env.scope x ∧ (X.fn x = true ∨ X.env.scope.names.lookup x = some .local) := by
  unfold nmOf at h
  split at h
  · rename_i hx
    refine ⟨by rw [g.N]; exact ixOf_get h, ?_, .inl (g.fn x rfl)⟩
    unfold L2.Loc
    rw [g.sc]; exact hx
  · cases h
theorem rdG_name {i : Nat} {v : V} {σ : L2.St} {H : Hp} {Q : L2.St → Hp → Prop} (h : rdG X (.name i) v σ H Q) : gName i v σ H Q := by
  obtain ⟨w, ρ, S, F, μ, ρ', ml, mh, rp, hb, k⟩ := h
  simp only [bindT, Option.some.injEq] at hb
  subst hb
  exact k _ (ml.set rp) fun own hown => wipe_set (hown i (by simp [DT.slots]))
/-- a name's assignment, its value any expression -/
theorem snd_setN (g : Gd ci call kl anyCell W sc X) {n : Nat} {x : Str} {i : Nat} {e : Expr} {e' : DE} {px pos : Pos} (hx : nmOf ci sc x = some i) (he : compE ci n sc e = some e') : ∃ t : TE, (∀ σ H Q, rd (frsh e') X W (evE call e') σ H Q → t σ H Q) ∧ PS X (.Assign [.Name x px] e pos) (tAsg t (gName i)) := by
  obtain ⟨h1, h2, h3⟩ := nmOf_loc g hx
  have plain : isLC e = false → ∃ t : TE, (∀ σ H Q, rd (frsh e') X W (evE call e') σ H Q → t σ H Q) ∧ PS X (.Assign [.Name x px] e pos) (tAsg t (gName i)) := fun hl =>
    ⟨_, fun _ _ _ h => h, ps_set g.nd h1 h2 (snd_E n sc anyCell W X g e e' he).1 (by cases e <;> first | rfl | (simp [isLC] at hl; done)) h3⟩
  cases hl : isLC e with
  | false => exact plain hl
  | true =>
    cases e with
    | SetComp => cases n <;> simp [compE] at he
    | DictComp => cases n <;> simp [compE] at he
    | ListComp elt gens scope cpos =>
      -- the store within the comprehension's frame, or behind it
      obtain ⟨b, hb⟩ : ∃ b, swapsWith (.ListComp elt gens scope cpos) (some (.Name x px)) pos.line X.env = pure b := ⟨_, rfl⟩
      cases b with
      | false => exact ⟨_, fun _ _ _ h => h, ps_set g.nd h1 h2 (snd_E n sc anyCell W X g _ e' he).1 hb h3⟩
      | true =>
        have hloc : X.env.scope.names.lookup x = some .local := by
          have e1 : swapsWith (.ListComp elt gens scope cpos) (some (.Name x px)) pos.line X.env = pure (X.env.blockKind == .function && X.env.kindOf x == some .local && px.line == (Expr.ListComp elt gens scope cpos).pos.line && !(scope.names.any fun (n, k) => n == x && (k == .local || k == .cell))) := rfl
          by_cases hq : X.env.scope.names.lookup x = some .local
          · exact hq
          · exfalso
            have e2 : (X.env.kindOf x == some .local) = false := by
              show (X.env.scope.names.lookup x == some .local) = false
              simpa using hq
            rw [hb, e2] at e1
            simp only [Bool.and_false, Bool.false_and] at e1
            have e3 : (pure true : Sem Bool) = pure false := e1
            cases e3
        cases n with
        | zero => cases he
        | succ n =>
          simp only [compE] at he
          split at he
          · rename_i tg iter ifs
            split at he
            · rename_i hblk
              simp only [Option.bind_eq_some_iff] at he
              obtain ⟨tg', htg, he⟩ := he
              split at he
              · rename_i hsl
                simp only [Option.bind_eq_some_iff, Option.map_eq_some_iff] at he
                obtain ⟨args', hargs, ifs', hifs, elt', helt, rfl⟩ := he
                have ih : ∀ {e : Expr} {e' : DE}, compE ci n sc e = some e' → PE X e (rdE X W (evE call e')) := fun {e e'} h => PE.frz (snd_E n sc anyCell W X g e e' h).1
                have ok : BlkOk X.N X.env.scope scope (ownOf ci.N scope) := by rw [g.N, g.sc]; exact blkOk_by hblk.1
                have hsl' : ∀ i ∈ tg'.slots, i ∈ (ownOf ci.N scope).map (·.2) := fun i hi => by
                  have := List.all_eq_true.mp hsl i hi
                  simpa using this
                have hi := snd_iter g (tg := tg) (iter := iter) (optAll_sndL ih hargs)
                have hns : ∀ es k p, iter ≠ .Set es k p := fun es k p z => by
                  subst z
                  have : optAll (compE ci n sc) [.Set es k p] = some args' := hargs
                  obtain ⟨b, r, q1, _, _⟩ := optAll_cons this
                  rw [compE_set] at q1; cases q1
                have G' := fun (s : Shared) (H : Hp) (C : Addr) (cl : List (Str × Addr)) (fp : List Addr) => g.blk s H scope C cl fp
                have hpt : ∀ (s : Shared) (H : Hp) (C : Addr) (cl : List (Str × Addr)) (fp : List Addr), PTs (X.blk s H scope (compEnvC scope cl C X.env) fp) ifs (rdT (X.blk s H scope (compEnvC scope cl C X.env) fp) (fun _ _ _ _ => False) (evTs call ifs')) := fun s H C cl fp => by
                  match ifs, hifs, hblk.2 with
                  | [], hifs, _ => cases hifs; exact snd_ptsN
                  | [c], hifs, _ =>
                    obtain ⟨b, r, q1, q2, rfl⟩ := optAll_cons hifs
                    cases q2
                    exact snd_pts1 (snd_E n _ _ _ _ (G' s H C cl fp) c b q1).2
                  | _ :: _ :: _, _, hl => simp at hl
                exact ⟨_, fun σ H Q hq => snd_lc g (pos := cpos) ok hsl' hi (folded_of hns) (fun s H C cl fp => snd_T (G' s H C cl fp) n htg) hpt (fun s H C cl fp => PE.frz (snd_E n _ _ _ _ (G' s H C cl fp) elt elt' helt).1) hq,
                  ps_setLc g.calm g.nd h1 hloc hb hi ok (fun s H C cl fp => snd_T (G' s H C cl fp) n htg) hpt (fun s H C cl fp => PE.frz (snd_E n _ _ _ _ (G' s H C cl fp) elt elt' helt).1) (folded_of hns)⟩
              · cases he
            · cases he
          · cases he
    | _ => simp [isLC] at hl
theorem rd_frz {fr : Bool} {m : Loc → Store → R Sv} {σ : L2.St} {H : Hp} {Q : VK} (h : rdE X W m σ H Q) : rd fr X W m σ H Q := by
  cases fr with
  | false => exact h
  | true => exact rdE_rdF h
theorem snd_asgN (g : Gd ci call kl anyCell W sc X) {fr : Bool} {n : Nat} {x : Str} {i : Nat} {e : Expr} {e' : DE} {px pos : Pos} (hx : nmOf ci sc x = some i) (he : compE ci n sc e = some e') : PS X (.Assign [.Name x px] e pos) (rdS X W fr (evS call wf (.asg (.name i) e'))) := by
  obtain ⟨t, ht, hp⟩ := snd_setN (px := px) (pos := pos) g hx he
  refine PS.imp hp fun D σ H hq => ?_
  obtain ⟨ρ, S, F, μ, ml, mh, hh⟩ := hq
  have hh : EndS X W fr μ F ((evE call e' ρ S).st ρ fun v S1 => SR.of (bindT (.name i) v ρ) S1) D := hh
  refine ht σ H _ (rd_frz ⟨ρ, S, F, μ, ml, mh, hh.split ml fun v S1 xv H1 F1 _ l1 m1 r1 h1 => ?_⟩)
  simp only [bindT, SR.of_some] at h1
  exact h1 _ H1 F1 μ (Le.refl _) (Fp.pre.refl _) rfl ((ml.mono l1).set r1) m1
theorem snd_new (g : Gd ci call kl anyCell W sc X) {fr : Bool} {n : Nat} {x : Str} {i : Nat} {e : Expr} {e' : DE} {px pos : Pos} (hx : nmOf ci sc x = some i) (he : compE ci n sc e = some e') (hf : frsh e' = true) : PS X (.Assign [.Name x px] e pos) (rdS X W fr (evS call wf (.new i e'))) := by
  obtain ⟨t, ht, hp⟩ := snd_setN (px := px) (pos := pos) g hx he
  refine PS.imp hp fun D σ H hq => ?_
  obtain ⟨ρ, S, F, μ, ml, mh, hh⟩ := hq
  have hh : EndS X W fr μ F ((evE call e' ρ S).st ρ fun v S1 => match v with
    | .p (.lst xs) => if frsh e' then .nx (ρ.set i (some (.c S1.length))) (S1 ++ [.lst xs]) else .bad
    | v => .nx (ρ.set i (some v)) S1) D := hh
  rw [hf] at ht
  refine ht σ H _ ⟨ρ, S, F, μ, ml, mh, hh.split ml fun v S1 xv H1 F1 _ l1 m1 r1 h1 => ?_⟩
  have plain : ∀ {v : Sv}, RepS X.K F1 μ v xv → EndS X W fr μ F1 (.nx (ρ.set i (some v)) S1) D → gName i xv σ H1 D.nx := fun {v} r h => h _ H1 F1 μ (Le.refl _) (Fp.pre.refl _) rfl ((ml.mono l1).set r) m1
  cases v with
  | c j => exact plain (v := .c j) r1 h1
  | p d =>
    cases d with
    | lst xs =>
      obtain ⟨a, vs, rfl, q1, q2, q3, q4, q5⟩ := r1
      simp only [hf, if_true] at h1
      have pr : μ.pre (μ.ext [a]) := ⟨[a], rfl⟩
      refine h1 _ H1 F1 (μ.ext [a]) (Le.refl _) pr rfl (((ml.mono l1).pre pr).set ⟨a, ?_, rfl⟩) (m1.own q1 q2 q3 q4 q5)
      unfold Fp.ext
      rw [← m1.mlen, List.getElem?_append_right (Nat.le_refl _), Nat.sub_self]
      rfl
    | non => exact plain (v := .p .non) r1 h1
    | bl b => exact plain (v := .p (.bl b)) r1 h1
    | int b => exact plain (v := .p (.int b)) r1 h1
    | str b => exact plain (v := .p (.str b)) r1 h1
    | tup b => exact plain (v := .p (.tup b)) r1 h1
    | scr b => exact plain (v := .p (.scr b)) r1 h1
    | fn b => exact plain (v := .p (.fn b)) r1 h1
/-- a tuple's assignment, part by part -/
theorem snd_asgT (g : Gd ci call kl anyCell W sc X) {fr : Bool} {n : Nat} {ts : List Expr} {kk : Nat} {tp pos : Pos} {t : DT} {e : Expr} {e' : DE} (ht : compT ci anyCell n sc (.Tuple ts kk tp) = some t) (he : compE ci n sc e = some e') (hw : swappedStores [.Tuple ts kk tp] e X.env = pure none) :
    PS X (.Assign [.Tuple ts kk tp] e pos) (rdS X W fr (evS call wf (.asg t e'))) := by
  refine PS.imp (ps_asg (PE.frz (snd_E n sc anyCell W X g e e' he).1) (snd_T g n ht) (by cases e <;> rfl) hw rfl) fun D σ H hq => ?_
  obtain ⟨ρ, S, F, μ, ml, mh, hh⟩ := hq
  have hh : EndS X W fr μ F ((evE call e' ρ S).st ρ fun v S1 => SR.of (bindT t v ρ) S1) D := hh
  refine ⟨ρ, S, F, μ, ml, mh, hh.split ml fun v S1 xv H1 F1 _ l1 m1 r1 h1 => ?_⟩
  cases hb : bindT t v ρ with
  | none => rw [hb] at h1; exact (show False from h1).elim
  | some ρ' =>
    rw [hb] at h1
    exact ⟨v, ρ, S1, F1, μ, ρ', ml.mono l1, m1, r1, hb, fun σ' ml' _ => h1 σ' H1 F1 μ (Le.refl _) (Fp.pre.refl _) rfl ml' m1⟩
theorem swap_none {e : Expr} {tg : Expr} {env : Env} (h : isTup e = false) : swappedStores [tg] e env = pure none := by
  cases tg <;> cases e <;> first | rfl | (simp [isTup] at h; done)
theorem fm_eq {α β : Type} (f g : α → Option β) (h : ∀ e, f e = g e) (ts : List α) : ts.filterMap f = ts.filterMap g := by
  have : f = g := funext h
  rw [this]
theorem any_eq {α : Type} (f g : α → Bool) (h : ∀ e, f e = g e) (ts : List α) : ts.any f = ts.any g := by
  have : f = g := funext h
  rw [this]
theorem swap_of {sc : Scope} {env : Env} {ts vs : List Expr} {k k2 : Nat} {p p2 : Pos} {o : Option (List Str)} (he : env.scope = sc) (h : swapOf sc ts vs = some o) : swappedStores [.Tuple ts k p] (.Tuple vs k2 p2) env = pure o := by
  subst he
  unfold swapOf at h
  split at h
  · cases h
  · rename_i h1
    split at h
    · cases h
    · rename_i h2
      have hk : env.scope.kind = .function := by
        simp only [Bool.or_eq_true, not_or, bne_iff_ne, ne_eq, Decidable.not_not, Bool.not_eq_true] at h1
        exact h1.2
      have hbk : env.blockKind = .function := by unfold Env.blockKind; rw [hk]; rfl
      have c1 : (!(ts.length == 2 || ts.length == 3) || vs.length != ts.length || env.blockKind != .function) = false := by
        rw [hbk]
        simpa [hk] using h1
      unfold swappedStores
      simp only [c1, Bool.false_eq_true, if_false]
      rw [any_eq _ isStar (fun e => by cases e <;> rfl), if_neg h2, fm_eq _ (nmAt env.scope ((ts.head?.map (·.pos.line)).getD 0)) (fun e => by cases e <;> rfl)]
      dsimp only at h
      generalize List.filterMap (nmAt env.scope ((ts.head?.map (·.pos.line)).getD 0)) ts = names at h ⊢
      split at h
      · rename_i h3
        cases h
        rw [if_pos h3]
      · rename_i h3
        rw [if_neg h3]
        split at h
        · rename_i h4
          cases h
          rw [if_pos h4]
        · rename_i h4
          rw [if_neg h4]
          split at h
          · cases h
          · rename_i h5
            cases h
            rw [if_neg h5]
end
end DV

set_option Elab.async false
set_option linter.all false
set_option maxRecDepth 100000
set_option maxHeartbeats 4000000
/-! DV11: statements, the rest. -/
namespace DV
open PySem PySem.Spec PyProof.Rows L2
section
variable {ci : CI} {si : SI} {call : CallF} {wf kl : Nat} {W : WX} {sc : Scope} {X : Cx}

theorem filterMap_two {α β : Type} {f : α → Option β} {a b : α} (h : ([a, b].filterMap f).length = 2) : ∃ x y, f a = some x ∧ f b = some y ∧ [a, b].filterMap f = [x, y] := by
  cases ha : f a with
  | none => cases hb : f b <;> simp [List.filterMap_cons, ha, hb] at h
  | some x =>
    cases hb : f b with
    | none => simp [List.filterMap_cons, ha, hb] at h
    | some y => exact ⟨x, y, rfl, rfl, by simp [List.filterMap_cons, ha, hb]⟩
theorem filterMap_three {α β : Type} {f : α → Option β} {a b c : α} (h : ([a, b, c].filterMap f).length = 3) : ∃ x y z, f a = some x ∧ f b = some y ∧ f c = some z ∧ [a, b, c].filterMap f = [x, y, z] := by
  cases ha : f a with
  | none => cases hb : f b <;> cases hc : f c <;> simp [List.filterMap_cons, ha, hb, hc] at h
  | some x =>
    cases hb : f b with
    | none => cases hc : f c <;> simp [List.filterMap_cons, ha, hb, hc] at h
    | some y =>
      cases hc : f c with
      | none => simp [List.filterMap_cons, ha, hb, hc] at h
      | some z => exact ⟨x, y, z, rfl, rfl, rfl, by simp [List.filterMap_cons, ha, hb, hc]⟩
theorem nmAt_name {l : Nat} {x y : Str} {p : Pos} (h : nmAt sc l (.Name x p) = some y) : y = x := by
  unfold nmAt at h
  dsimp only at h
  split at h
  · exact (Option.some.inj h).symm
  · cases h
theorem swap_par {ts vs : List Expr} {names : List Str} (h : swapOf sc ts vs = some (some names)) : (ts.length = 2 ∨ ts.length = 3) ∧ vs.length = ts.length ∧ ∃ l, names = ts.filterMap (nmAt sc l) ∧ (ts.filterMap (nmAt sc l)).length = ts.length := by
  unfold swapOf at h
  split at h
  · cases h
  · rename_i h1
    simp only [Bool.or_eq_true, not_or, bne_iff_ne, ne_eq, Decidable.not_not, Bool.not_eq_true, Bool.not_eq_false', beq_iff_eq] at h1
    split at h
    · cases h
    · dsimp only at h
      split at h
      · cases h
      · rename_i h3
        simp only [Bool.or_eq_true, not_or, bne_iff_ne, ne_eq, Decidable.not_not] at h3
        split at h
        · cases h
        · split at h
          · cases h
          · cases h
            exact ⟨h1.1.1, h1.1.2, _, rfl, h3.1⟩
theorem locs_cons {a : Expr} {as : List Expr} {is : List Nat} (h : locs ci sc (a :: as) = some is) : ∃ x p i r, a = .Name x p ∧ sc.names.lookup x = some .local ∧ ixOf ci.N x = some i ∧ locs ci sc as = some r ∧ is = i :: r := by
  unfold locs at h
  obtain ⟨b, r, h1, h2, rfl⟩ := optAll_cons h
  cases a with
  | Name x p =>
    dsimp only at h1
    split at h1
    · rename_i hx; exact ⟨x, p, b, r, rfl, hx, h1, h2, rfl⟩
    · cases h1
  | _ => cases h1
theorem locs_nil {is : List Nat} (h : locs ci sc [] = some is) : is = [] := by cases h; rfl
theorem RepSs.one {K : PySem.W.Frag} {F : Hp} {μ : Fp} {v : Sv} {xs : List V} (h : RepSs K F μ [v] xs) : ∃ x, xs = [x] ∧ RepS K F μ v x := by
  obtain ⟨x, r, rfl, h1, h2⟩ := h
  cases h2
  exact ⟨x, rfl, h1⟩
theorem RepSs.two {K : PySem.W.Frag} {F : Hp} {μ : Fp} {v w : Sv} {xs : List V} (h : RepSs K F μ [v, w] xs) : ∃ x y, xs = [x, y] ∧ RepS K F μ v x ∧ RepS K F μ w y := by
  obtain ⟨x, r, rfl, h1, h2⟩ := h
  obtain ⟨y, rfl, h3⟩ := RepSs.one h2
  exact ⟨x, y, rfl, h1, h3⟩
theorem RepSs.three {K : PySem.W.Frag} {F : Hp} {μ : Fp} {v w u : Sv} {xs : List V} (h : RepSs K F μ [v, w, u] xs) : ∃ x y z, xs = [x, y, z] ∧ RepS K F μ v x ∧ RepS K F μ w y ∧ RepS K F μ u z := by
  obtain ⟨x, r, rfl, h1, h2⟩ := h
  obtain ⟨y, z, rfl, h3, h4⟩ := RepSs.two h2
  exact ⟨x, y, z, rfl, h1, h3, h4⟩

theorem snd_par (g : Gd ci call kl anyCell W sc X) {fr : Bool} {n : Nat} {ts vs : List Expr} {names : List Str} {is : List Nat} {es : List DE} {kt k2 : Nat} {tp p2 pos : Pos}
    (hsw : swapOf sc ts vs = some (some names)) (hl : locs ci sc ts = some is) (hnd : is.Nodup) (he : optAll (compE ci n sc) vs = some es) :
    PS X (.Assign [.Tuple ts kt tp] (.Tuple vs k2 p2) pos) (rdS X W fr (evS call wf (.par is es))) := by
  obtain ⟨hlen, hvl, l, hnm, hfl⟩ := swap_par hsw
  have hw : swappedStores [.Tuple ts kt tp] (.Tuple vs k2 p2) X.env = pure (some names) := swap_of g.sc hsw
  have hpa : PA X vs (rdL X W (evL call es)) := (optAll_sndL (fun h => PE.frz (snd_E n sc anyCell W X g _ _ h).1) he).pa
  rcases hlen with h2 | h3
  · obtain ⟨a, b, rfl⟩ : ∃ a b, ts = [a, b] := two_of_len h2
    obtain ⟨e1, e2, rfl⟩ : ∃ a b, vs = [a, b] := two_of_len (by rw [hvl]; rfl)
    obtain ⟨x, px, i, r, rfl, hx, hi, hr, rfl⟩ := locs_cons hl
    obtain ⟨y, py, j, r', rfl, hy, hj, hr', rfl⟩ := locs_cons hr
    cases locs_nil hr'
    obtain ⟨x', y', q1, q2, q3⟩ := filterMap_two hfl
    cases nmAt_name q1; cases nmAt_name q2
    rw [hnm, q3] at hw
    have hij : i ≠ j := by simp at hnd; exact hnd
    refine PS.imp (ps_par g.calm g.nd (by rw [g.N]; exact ixOf_get hi) (by rw [g.N]; exact ixOf_get hj) hij (by rw [g.sc]; exact hx) (by rw [g.sc]; exact hy) hpa hw) fun D σ H hq => ?_
    obtain ⟨ρ, S, F, μ, ml, mh, hh⟩ := hq
    have hh : EndS X W fr μ F ((evL call es ρ S).st ρ fun vs S1 => if [i, j].length = vs.length then .nx (([i, j].zip vs).foldl (fun ρ p => ρ.set p.1 (some p.2)) ρ) S1 else .bad) D := hh
    refine ⟨ρ, S, F, μ, ml, mh, hh.split ml fun v S1 xv H1 F1 _ l1 m1 r1 h1 => ?_⟩
    split at h1
    · rename_i hlen
      obtain ⟨v1, v2, rfl⟩ : ∃ a b, v = [a, b] := two_of_len (by simpa using hlen.symm)
      obtain ⟨x1, x2, rfl, t1, t2⟩ := RepSs.two r1
      exact ⟨x1, x2, rfl, h1 _ H1 F1 μ (Le.refl _) (Fp.pre.refl _) rfl (((ml.mono l1).set t1).set t2) m1⟩
    · exact (show False from h1).elim
  · obtain ⟨a, b, c, rfl⟩ : ∃ a b c, ts = [a, b, c] := by
      match ts, h3 with
      | [a, b, c], _ => exact ⟨a, b, c, rfl⟩
    obtain ⟨e1, e2, e3, rfl⟩ : ∃ a b c, vs = [a, b, c] := by
      match vs, hvl with
      | [a, b, c], _ => exact ⟨a, b, c, rfl⟩
    obtain ⟨x, px, i, r, rfl, hx, hi, hr, rfl⟩ := locs_cons hl
    obtain ⟨y, py, j, r', rfl, hy, hj, hr', rfl⟩ := locs_cons hr
    obtain ⟨z, pz, k, r'', rfl, hz, hk, hr'', rfl⟩ := locs_cons hr'
    cases locs_nil hr''
    obtain ⟨x', y', z', q1, q2, q3, q4⟩ := filterMap_three hfl
    cases nmAt_name q1; cases nmAt_name q2; cases nmAt_name q3
    rw [hnm, q4] at hw
    have hn : i ≠ j ∧ i ≠ k ∧ j ≠ k := by
      simp at hnd
      exact ⟨hnd.1.1, hnd.1.2, hnd.2⟩
    refine PS.imp (ps_par3 g.calm g.nd (by rw [g.N]; exact ixOf_get hi) (by rw [g.N]; exact ixOf_get hj) (by rw [g.N]; exact ixOf_get hk) hn.1 hn.2.1 hn.2.2 (by rw [g.sc]; exact hx) (by rw [g.sc]; exact hy) (by rw [g.sc]; exact hz) hpa hw) fun D σ H hq => ?_
    obtain ⟨ρ, S, F, μ, ml, mh, hh⟩ := hq
    have hh : EndS X W fr μ F ((evL call es ρ S).st ρ fun vs S1 => if [i, j, k].length = vs.length then .nx (([i, j, k].zip vs).foldl (fun ρ p => ρ.set p.1 (some p.2)) ρ) S1 else .bad) D := hh
    refine ⟨ρ, S, F, μ, ml, mh, hh.split ml fun v S1 xv H1 F1 _ l1 m1 r1 h1 => ?_⟩
    split at h1
    · rename_i hlen
      obtain ⟨v1, v2, v3, rfl⟩ : ∃ a b c, v = [a, b, c] := by
        match v, hlen with
        | [a, b, c], _ => exact ⟨a, b, c, rfl⟩
      obtain ⟨x1, x2, x3, rfl, t1, t2, t3⟩ := RepSs.three r1
      exact ⟨x1, x2, x3, rfl, h1 _ H1 F1 μ (Le.refl _) (Fp.pre.refl _) rfl ((((ml.mono l1).set t1).set t2).set t3) m1⟩
    · exact (show False from h1).elim

theorem snd_aug (g : Gd ci call kl anyCell W sc X) {fr : Bool} {x : Str} {i : Nat} {op : Operator} {e : Expr} {e' : DE} {px pos : Pos} (hx : nmOf ci sc x = some i) (he : PE X e (rdE X W (evE call e'))) (hop : op = .Add ∨ op = .Sub) :
    PS X (.AugAssign (.Name x px) op e pos) (rdS X W fr (evS call wf (.aug i op e'))) := by
  obtain ⟨h1, h2, h3⟩ := nmOf_loc g hx
  have go : ∀ f : Int → Int → Int, PIp X op (ipI f) → (∀ a b, binD op (.int a) (.int b) = some (.int (f a b))) → PS X (.AugAssign (.Name x px) op e pos) (rdS X W fr (evS call wf (.aug i op e'))) := fun f hip hf => by
    refine PS.imp (ps_aug g.nd h1 h2 he hip h3) fun D σ H hq => ?_
    obtain ⟨ρ, S, F, μ, ml, mh, hh⟩ := hq
    have hh : EndS X W fr μ F (match lget ρ i with
      | some (.p d) => (evE call e' ρ S).st ρ fun v S1 => match v with
        | .p e => (match d, e, binD op d e with
          | .int _, .int _, some r => .nx (ρ.set i (some (.p r))) S1
          | _, _, _ => .bad)
        | _ => .bad
      | _ => .bad) D := hh
    split at hh
    · rename_i d hd
      obtain ⟨y, y1, y2⟩ := ml.get hd
      refine ⟨y, y1, ρ, S, F, μ, ml, mh, hh.split ml fun v S1 xv H1 F1 _ l1 m1 r1 k1 => ?_⟩
      split at k1
      · rename_i e
        split at k1
        · rename_i a b r hb
          rw [hf] at hb
          cases hb
          have y3 : y = .int a := y2
          have r3 : xv = .int b := r1
          exact ⟨a, b, y3, r3, k1 _ H1 F1 μ (Le.refl _) (Fp.pre.refl _) rfl ((ml.mono l1).set rfl) m1⟩
        · exact (show False from k1).elim
      · exact (show False from k1).elim
    · exact (show False from hh).elim
  rcases hop with rfl | rfl
  · exact go _ ip_add fun _ _ => rfl
  · exact go _ ip_sub fun _ _ => rfl

theorem snd_setix (g : Gd ci call kl anyCell W sc X) {fr : Bool} {a i e : Expr} {a' i' e' : DE} {sp pos : Pos} (ha : PE X a (rdE X W (evE call a'))) (hi : PE X i (rdE X W (evE call i'))) (he : PE X e (rdE X W (evE call e'))) (hsl : isSlice i = false) :
    PS X (.Assign [.Subscript a i sp] e pos) (rdS X W fr (evS call wf (.setix a' i' e'))) := by
  refine PS.imp (ps_asg he (pg_sub ha hi set_list (by intro _; cases i <;> first | rfl | cases hsl)) (by cases e <;> rfl) (by cases e <;> rfl) rfl) fun D σ H hq => ?_
  obtain ⟨ρ, S, F, μ, ml, mh, hh⟩ := hq
  have hh : EndS X W fr μ F ((evE call e' ρ S).st ρ fun v S1 => (evE call a' ρ S1).st ρ fun x S2 => (evE call i' ρ S2).st ρ fun y S3 => match v, x, y with
    | .p d, .c j, .p (.int k) => (match S3[j]? with
      | some (.lst xs) => (match L2.ixN xs.length k with
        | some m => .nx ρ (S3.set j (.lst (xs.set m d)))
        | none => .bad)
      | none => .bad)
    | _, _, _ => .bad) D := hh
  refine ⟨ρ, S, F, μ, ml, mh, hh.split ml fun v S1 xv H1 F1 _ l1 m1 r1 h1 => ?_⟩
  refine ⟨ρ, S1, F1, μ, ml.mono l1, m1, h1.split (ml.mono l1) fun x S2 xx H2 F2 _ l2 m2 r2 h2 => ?_⟩
  refine ⟨ρ, S2, F2, μ, (ml.mono l1).mono l2, m2, h2.split ((ml.mono l1).mono l2) fun y S3 xy H3 F3 _ l3 m3 r3 h3 => ?_⟩
  split at h3
  · rename_i d j k _ _ _
    split at h3
    · rename_i xs hxs
      split at h3
      · rename_i m hm
        obtain ⟨p, p1, rfl⟩ := r2
        have r3' : xy = .int k := r3
        obtain ⟨vs, q1, q2⟩ := m3.cell j p _ p1 hxs
        have rv : Rep X.K F3 d xv := Rep.mono l3 (Rep.mono l2 r1)
        exact ⟨p, vs, k, m, rfl, r3', q1, by rw [q2.length]; exact hm, h3 _ _ F3 μ (Le.refl _) (Fp.pre.refl _) rfl (((ml.mono l1).mono l2).mono l3) (m3.put p1 (q2.set rv))⟩
      · exact (show False from h3).elim
    · exact (show False from h3).elim
  · exact (show False from h3).elim

theorem snd_app (g : Gd ci call kl anyCell W sc X) {fr : Bool} {o a : Expr} {o' a' : DE} {nm : Str} {apos cpos pos : Pos} (ho : PE X o (rdE X W (evE call o'))) (ha : SndL X W call [a] [a']) (hnm : nm = "append") (hline : (apos.endLine == cpos.line) = true) (hN : isNameE o = true) :
    PS X (.Expr (.Call (.Attribute o nm apos) [a] [] cpos) pos) (rdS X W fr (evS call wf (.app o' a'))) := by
  subst hnm
  have hst := ha.star (env := X.env)
  have hpe : PE X (.Call (.Attribute o "append" apos) [a] [] cpos) (tBM X.K "list" rAppend (rdE X W (evE call o')) (rdL X W (evL call [a']))) :=
    pe_bm PySem.F.plainAttrs_list PySem.F.slot_list_append PySem.F.type_list_append mt_append ho ha.pa (by cases o <;> first | rfl | cases hN)
      (by rw [hst]; rfl) hline (by rw [hst]; rfl) rfl
  refine PS.imp (ps_expr hpe (by rfl)) fun D σ H hq => ?_
  obtain ⟨ρ, S, F, μ, ml, mh, hh⟩ := hq
  have hh : EndS X W fr μ F ((evE call o' ρ S).st ρ fun x S1 => match x with
    | .c j => (evE call a' ρ S1).st ρ fun v S2 => (match v with
      | .p d => (match S2[j]? with
        | some (.lst xs) => if xs.length < sizeLine then .nx ρ (S2.set j (.lst (xs ++ [d]))) else .bad
        | none => .bad)
      | .c _ => .bad)
    | .p _ => .bad) D := hh
  refine ⟨ρ, S, F, μ, ml, mh, hh.split ml fun x S1 xv H1 F1 _ l1 m1 r1 h1 => ?_⟩
  cases x with
  | p d => exact (show False from h1).elim
  | c j =>
    obtain ⟨p, p1, rfl⟩ := r1
    obtain ⟨vs0, t1⟩ := m1.there (List.mem_iff_getElem?.mpr ⟨j, p1⟩)
    have hl : End X.K X.mg (WE W σ) μ (RpL X.K μ) F1 (evL call [a'] ρ S1) (fun xs H2 => rAppend (.ref p) xs H2 fun _ H1 => D.nx σ H1) := by
      rw [evL_one]
      have key : End X.K X.mg (WE W σ) μ (RpE X.K μ) F1 (evE call a' ρ S1) (fun b H2 => rAppend (.ref p) [b] H2 fun _ H1 => D.nx σ H1) := by
        refine h1.split (ml.mono l1) fun v S2 b H2 F2 _ l2 m2 r2 h2 => ?_
        cases v with
        | c _ => exact (show False from h2).elim
        | p d =>
          dsimp only at h2
          split at h2
          · rename_i xs hxs
            split at h2
            · rename_i hsz
              obtain ⟨vs, q1, q2⟩ := m2.cell j p _ p1 hxs
              exact ⟨p, vs, b, rfl, rfl, q1, by rw [q2.length]; exact hsz, h2 _ _ F2 μ (Le.refl _) (Fp.pre.refl _) rfl ((ml.mono l1).mono l2) (m2.put p1 (q2.append (Reps.cons r2 rfl)))⟩
            · exact (show False from h2).elim
          · exact (show False from h2).elim
      cases ev : evE call a' ρ S1 with
      | bad => rw [ev] at key; exact key
      | exc e S2 => rw [ev] at key; exact key
      | ok v S2 =>
        rw [ev] at key
        intro bs H2 F2 l2 m2 r2
        obtain ⟨b, rfl, r3⟩ := RepSs.one r2
        exact key b H2 F2 l2 m2 r3
    exact ⟨.inl ⟨rfl, vs0, .of t1⟩, ρ, S1, F1, μ, ml.mono l1, m1, hl⟩
end
end DV

set_option Elab.async false
set_option linter.all false
set_option maxRecDepth 100000
set_option maxHeartbeats 4000000
/-! DV12: loops, blocks, all statements. -/
namespace DV
open PySem PySem.Spec PyProof.Rows L2
section
variable {ci : CI} {si : SI} {call : CallF} {wf kl : Nat} {W : WX} {sc : Scope} {X : Cx}

theorem snd_for (g : GdS ci call kl W sc X) {fr : Bool} {n : Nat} {tg iter : Expr} {body : List Stmt} {t : DT} {args : List DE} {b : List DS} {pos : Pos}
    (ht : compT ci anyCell n sc tg = some t) (ha : SndL X W call (iterK ci sc tg iter).2 args) (hns : ∀ es k p, iter ≠ .Set es k p) (hb : PSs X body (rdS X W fr (evB call wf b))) :
    PS X (.For tg iter body [] pos) (rdS X W fr (evS call wf (.for t (iterK ci sc tg iter).1 args b))) := by
  refine PS.imp (ps_for g.own g.g.calm (snd_iter g.g ha) (snd_T g.g n ht) hb (folded_of hns)) fun D σ H hq => ?_
  obtain ⟨ρ, S, F, μ, ml, mh, hh⟩ := hq
  have hh : EndS X W fr μ F ((evL call args ρ S).st ρ fun vs S1 => match itemsOf (iterK ci sc tg iter).1 vs S1 with
    | some (ds, Wt) => forL t (evB call wf b) Wt ds ρ S1
    | none => .bad) D := hh
  have e1 : ((evL call args ρ S).st ρ fun vs S1 => match itemsOf (iterK ci sc tg iter).1 vs S1 with
      | some (ds, Wt) => forL t (evB call wf b) Wt ds ρ S1
      | none => .bad) = ((evI call (iterK ci sc tg iter).1 args ρ S).st ρ fun dw S1 => forL t (evB call wf b) dw.2 dw.1 ρ S1) := by
    unfold evI
    cases evL call args ρ S with
    | bad => rfl
    | exc x S1 => rfl
    | ok vs S1 =>
      simp only [R.st_ok, R.bind_ok]
      cases itemsOf (iterK ci sc tg iter).1 vs S1 <;> rfl
  rw [e1] at hh
  refine ⟨ρ, S, F, μ, ml, mh, hh.split ml fun dw S1 J H1 F1 _ l1 m1 r1 h1 => ?_⟩
  obtain ⟨ds, Wt⟩ := dw
  dsimp only at h1 r1
  refine ⟨fun i m σ H => ∃ ρ S F' μ', Le F1 F' ∧ μ.pre μ' ∧ μ'.P = μ.P ∧ Ml X.K σ ρ F' μ' ∧ Mh X.K H S F' μ' ∧ i ≤ ds.length ∧ m = ds.length - i ∧ EndS X W fr μ' F' (forL t (evB call wf b) Wt (ds.drop i) ρ S) D, ⟨_, ρ, S1, F1, μ, Le.refl _, Fp.pre.refl _, rfl, ml.mono l1, m1, Nat.zero_le _, rfl, by rw [List.drop_zero]; exact h1⟩, ?_⟩
  rintro i m σ' H' ⟨ρ', S', F', μ', l', p', e', ml', mh', hi, hm, hw⟩
  rcases Nat.lt_or_eq_of_le hi with hlt | heq
  · right
    rw [List.drop_eq_getElem_cons hlt] at hw
    unfold forL at hw
    split at hw
    · rename_i hwt
      split at hw
      · rename_i ρ2 hbd
        obtain ⟨go, _⟩ := r1 i H' S' F' μ' l' p' mh' hwt
        obtain ⟨go1, go2⟩ := go ds[i] (List.getElem?_eq_getElem hlt)
        refine ⟨go1, fun σ H => ∃ ρ S F' μ', Le F1 F' ∧ μ.pre μ' ∧ μ'.P = μ.P ∧ Ml X.K σ ρ F' μ' ∧ Mh X.K H S F' μ' ∧ EndS X W fr μ' F' (forL t (evB call wf b) Wt (ds.drop (i + 1)) ρ S) D, ?_, ?_⟩
        · rintro σ3 H3 ⟨ρ3, S3, F3, μ3, q1, q2, q3, q4, q5, q6⟩
          exact ⟨ds.length - (i + 1), by omega, ρ3, S3, F3, μ3, q1, q2, q3, q4, q5, hlt, rfl, q6⟩
        · intro x H'' hy
          obtain ⟨F'', l'', mh'', rp⟩ := go2 x H'' hy
          refine ⟨.p ds[i], ρ', S', F'', μ', ρ2, ml'.mono l'', mh'', rp, hbd, fun σ'' ml'' _ => ?_⟩
          refine ⟨ρ2, S', F'', μ', ml'', mh'', ?_⟩
          refine (EndS.mono hw l'' (Fp.pre.refl _) rfl).turn (fun ρ3 S3 σ3 H3 F3 μ3 l3 p3 e3 ml3 mh3 h3 => ?_) rfl rfl
          have : ∃ ρ S F' μ', Le F1 F' ∧ μ.pre μ' ∧ μ'.P = μ.P ∧ Ml X.K σ3 ρ F' μ' ∧ Mh X.K H3 S F' μ' ∧ EndS X W fr μ' F' (forL t (evB call wf b) Wt (ds.drop (i + 1)) ρ S) D :=
            ⟨ρ3, S3, F3, μ3, (l'.trans l'').trans l3, p'.trans p3, e3.trans e', ml3, mh3, h3⟩
          exact ⟨this, this⟩
      · exact (show False from hw).elim
    · exact (show False from hw).elim
  · left
    rw [heq, List.drop_length] at hw
    unfold forL at hw
    split at hw
    · rename_i hwt
      obtain ⟨_, st⟩ := r1 i H' S' F' μ' l' p' mh' hwt
      exact ⟨st heq, hw σ' H' F' μ' (Le.refl _) (Fp.pre.refl _) rfl ml' mh'⟩
    · exact (show False from hw).elim

theorem snd_while (g : GdS ci call kl W sc X) {fr : Bool} {c : Expr} {c' : DE} {body : List Stmt} {b : List DS} {pos : Pos} (hc : PT X c (rdT X W (evT call c'))) (hb : PSs X body (rdS X W fr (evB call wf b))) :
    PS X (.While c body [] pos) (rdS X W fr (evS call wf (.while c' b))) := by
  refine PS.imp (ps_while g.own hc hb) fun D σ H hq => ?_
  obtain ⟨ρ, S, F, μ, ml, mh, hh⟩ := hq
  have hh : EndS X W fr μ F (whileL (evT call c') (evB call wf b) wf ρ S) D := hh
  refine ⟨fun m σ H => ∃ ρ S F' μ', Ml X.K σ ρ F' μ' ∧ Mh X.K H S F' μ' ∧ EndS X W fr μ' F' (whileL (evT call c') (evB call wf b) m ρ S) D, ⟨wf, ρ, S, F, μ, ml, mh, hh⟩, ?_⟩
  rintro m σ' H' ⟨ρ', S', F', μ', ml', mh', hw⟩
  cases m with
  | zero => exact (show False from hw).elim
  | succ m =>
    unfold whileL at hw
    refine ⟨ρ', S', F', μ', ml', mh', hw.split ml' fun k S1 kb H1 F1 _ l1 m1 r1 h1 => ?_⟩
    cases (show k = kb from r1)
    cases k with
    | false => exact h1 σ' H1 F1 μ' (Le.refl _) (Fp.pre.refl _) rfl (ml'.mono l1) m1
    | true =>
      rw [if_pos rfl] at h1 ⊢
      refine ⟨fun σ H => ∃ ρ S F' μ', Ml X.K σ ρ F' μ' ∧ Mh X.K H S F' μ' ∧ EndS X W fr μ' F' (whileL (evT call c') (evB call wf b) m ρ S) D, fun σ3 H3 h3 => ⟨m, Nat.lt_succ_self m, h3⟩, ρ', S1, F1, μ', ml'.mono l1, m1, ?_⟩
      refine h1.turn (fun ρ3 S3 σ3 H3 F3 μ3 l3 p3 e3 ml3 mh3 h3 => ?_) rfl rfl
      exact ⟨⟨ρ3, S3, F3, μ3, ml3, mh3, h3⟩, ⟨ρ3, S3, F3, μ3, ml3, mh3, h3⟩⟩

/-- each of the statements -/
inductive SndS (X : Cx) (W : WX) (fr : Bool) (call : CallF) (wf : Nat) : List Stmt → List DS → Prop
  | nil : SndS X W fr call wf [] []
  | cons {s : Stmt} {ss : List Stmt} {d : DS} {ds : List DS} (h : PS X s (rdS X W fr (evS call wf d))) (t : SndS X W fr call wf ss ds) : SndS X W fr call wf (s :: ss) (d :: ds)
theorem SndS.pss {fr : Bool} {ss : List Stmt} {ds : List DS} (h : SndS X W fr call wf ss ds) : PSs X ss (rdS X W fr (evB call wf ds)) := by
  induction h with
  | nil =>
    refine PSs.imp pss_nil fun D σ H hq => ?_
    obtain ⟨ρ, S, F, μ, ml, mh, hh⟩ := hq
    exact (show ∀ σ' H' F' μ', _ → _ → _ → _ → _ → D.nx σ' H' from hh) σ H F μ (Le.refl _) (Fp.pre.refl _) rfl ml mh
  | @cons s ss d ds h t ih =>
    refine PSs.imp (pss_cons h ih) fun D σ H hq => ?_
    obtain ⟨ρ, S, F, μ, ml, mh, hh⟩ := hq
    have hh : EndS X W fr μ F ((evS call wf d ρ S).seq fun ρ S => evB call wf ds ρ S) D := hh
    exact ⟨ρ, S, F, μ, ml, mh, hh.seq (fun ρ' S' σ' H' F' μ' l p e ml' mh' h' => ⟨ρ', S', F', μ', ml', mh', h'⟩) rfl rfl rfl⟩
theorem optAll_sndS {fr : Bool} {n : Nat} (ih : ∀ {s : Stmt} {d : DS}, compS ci si n sc s = some d → PS X s (rdS X W fr (evS call wf d))) : ∀ {ss : List Stmt} {ds : List DS}, optAll (compS ci si n sc) ss = some ds → SndS X W fr call wf ss ds
  | [], _, h => by cases h; exact .nil
  | s :: ss, _, h => by
    obtain ⟨b, r, h1, h2, rfl⟩ := optAll_cons h
    exact .cons (ih h1) (optAll_sndS ih h2)
theorem EndS.ret1 {fr : Bool} {μ : Fp} {F : Hp} {v : Sv} {S : Store} {D : Ends} (h : EndS X W fr μ F (.ret v S) D) {b : V} {H' : Hp} (mh : Mh X.K H' S F μ) (r : if fr then RepF X.K μ F H' v b else RepS X.K F μ v b) : D.rt b H' := h b H' F μ (Le.refl _) (Fp.pre.refl _) rfl mh r

theorem snd_S (g : GdS ci call kl W sc X) : ∀ (n : Nat) (s : Stmt) (d : DS), compS ci si n sc s = some d → PS X s (rdS X W si.fr (evS call wf d))
  | 0, _, _, h => by cases h
  | n + 1, s, d, h => by
    have ihE : ∀ {e : Expr} {e' : DE}, compE ci n sc e = some e' → PE X e (rdE X W (evE call e')) := fun {e e'} h => PE.frz (snd_E n sc anyCell W X g.g e e' h).1
    have ihT : ∀ {e : Expr} {e' : DE}, compE ci n sc e = some e' → PT X e (rdT X W (evT call e')) := fun {e e'} h => (snd_E n sc anyCell W X g.g e e' h).2
    have ihL : ∀ {ss : List Stmt} {ds : List DS}, optAll (compS ci si n sc) ss = some ds → PSs X ss (rdS X W si.fr (evB call wf ds)) := fun {ss ds} h => (optAll_sndS (fun {s d} h => snd_S g n s d h) h).pss
    cases s with
    | Assign tgs e pos =>
      simp only [compS] at h
      split at h
      · split at h
        · simp only [Option.bind_eq_some_iff, Option.map_eq_some_iff] at h
          obtain ⟨i, hi, e', he, rfl⟩ := h
          split
          · rename_i hc
            exact snd_new g.g hi he hc.2
          · exact snd_asgN g.g hi he
        · split at h
          · split at h
            · cases h
            · rename_i hsw
              simp only [Option.bind_eq_some_iff, Option.map_eq_some_iff] at h
              obtain ⟨t, ht, e', he, rfl⟩ := h
              exact snd_asgT g.g ht he (swap_of g.g.sc hsw)
            · rename_i hsw
              simp only [Option.bind_eq_some_iff] at h
              obtain ⟨is, his, h⟩ := h
              split at h
              · rename_i hnd
                simp only [Option.map_eq_some_iff] at h
                obtain ⟨es, hes, rfl⟩ := h
                exact snd_par g.g hsw his hnd hes
              · cases h
          · rename_i hne
            simp only [Option.bind_eq_some_iff, Option.map_eq_some_iff] at h
            obtain ⟨t, ht, e', he, rfl⟩ := h
            refine snd_asgT g.g ht he (swap_none ?_)
            cases e <;> first | rfl | exact absurd rfl (hne _ _ _)
        · split at h
          · cases h
          · rename_i hsl
            simp only [Option.bind_eq_some_iff, Option.map_eq_some_iff] at h
            obtain ⟨e', he, a', ha, i', hi, rfl⟩ := h
            exact snd_setix g.g (ihE ha) (ihE hi) (ihE he) (by simpa using hsl)
        · cases h
      · cases h
    | AugAssign tg op e pos =>
      simp only [compS] at h
      split at h
      · simp only [Option.bind_eq_some_iff, Option.map_eq_some_iff] at h
        obtain ⟨i, hi, e', he, rfl⟩ := h
        exact snd_aug g.g hi (ihE he) (.inl rfl)
      · simp only [Option.bind_eq_some_iff, Option.map_eq_some_iff] at h
        obtain ⟨i, hi, e', he, rfl⟩ := h
        exact snd_aug g.g hi (ihE he) (.inr rfl)
      · cases h
    | Expr e pos =>
      have plain : ∀ {e' : DE}, isLC e = false → compE ci n sc e = some e' → PS X (.Expr e pos) (rdS X W si.fr (evS call wf (.expr e'))) := fun {e'} hl he => by
        refine PS.imp (ps_expr (ihE he) (by cases e <;> first | rfl | cases hl)) fun D σ H hq => ?_
        obtain ⟨ρ, S, F, μ, ml, mh, hh⟩ := hq
        have hh : EndS X W si.fr μ F ((evE call e' ρ S).st ρ fun _ S1 => .nx ρ S1) D := hh
        exact ⟨ρ, S, F, μ, ml, mh, hh.split ml fun v S1 xv H1 F1 _ l1 m1 r1 h1 => h1 σ H1 F1 μ (Le.refl _) (Fp.pre.refl _) rfl (ml.mono l1) m1⟩
      simp only [compS] at h
      split at h
      · split at h
        · rename_i hc
          simp only [Option.bind_eq_some_iff, Option.map_eq_some_iff] at h
          obtain ⟨o', ho, a', ha, rfl⟩ := h
          exact snd_app g.g (ihE ho) (.cons (fun b p z => by rw [z, compE_star] at ha; cases ha) (ihE ha) .nil) hc.1 hc.2.1 hc.2.2
        · cases h
      · split at h
        · cases h
        · rename_i hl
          simp only [Option.map_eq_some_iff] at h
          obtain ⟨e', he, rfl⟩ := h
          exact plain (by simpa using hl) he
    | Return e pos =>
      simp only [compS] at h
      split at h
      · cases h
        refine PS.imp ps_retN fun D σ H hq => ?_
        obtain ⟨ρ, S, F, μ, ml, mh, hh⟩ := hq
        refine EndS.ret1 (b := V.non) (show EndS X W si.fr μ F (.ret (.p .non) S) D from hh) mh ?_
        cases si.fr <;> exact rfl
      · rename_i e
        simp only [Option.map_eq_some_iff] at h
        obtain ⟨e', he, rfl⟩ := h
        split
        · rename_i hf
          have k := (snd_E n sc anyCell W X g.g e e' he).1
          refine PS.imp (ps_ret k) fun D σ H hq => ?_
          obtain ⟨ρ, S, F, μ, ml, mh, hh⟩ := hq
          have hh : EndS X W si.fr μ F ((evE call e' ρ S).st ρ fun v S1 => match v with
            | .p d => if frsh e' then .ret (.p d) S1 else .bad
            | .c i => .ret (.c i) S1) D := hh
          rw [hf] at hh
          show rd (frsh e') X W (evE call e') σ H D.rt
          cases hfe : frsh e' with
          | true =>
            refine ⟨ρ, S, F, μ, ml, mh, hh.split ml fun v S1 xv H1 F1 _ l1 m1 r1 h1 => ?_⟩
            cases v with
            | c i => exact h1.ret1 m1 r1
            | p d =>
              simp only [hfe, if_true] at h1
              exact h1.ret1 m1 r1
          | false =>
            refine ⟨ρ, S, F, μ, ml, mh, hh.split ml fun v S1 xv H1 F1 _ l1 m1 r1 h1 => ?_⟩
            cases v with
            | c i => exact h1.ret1 m1 r1
            | p d =>
              simp only [hfe, Bool.false_eq_true, if_false] at h1
              exact (show False from h1).elim
        · rename_i hf
          refine PS.imp (ps_ret (ihE he)) fun D σ H hq => ?_
          obtain ⟨ρ, S, F, μ, ml, mh, hh⟩ := hq
          have hh : EndS X W si.fr μ F ((evE call e' ρ S).st ρ fun v S1 => .ret v S1) D := hh
          rw [show si.fr = false by simpa using hf] at hh
          exact ⟨ρ, S, F, μ, ml, mh, hh.split ml fun v S1 xv H1 F1 _ l1 m1 r1 h1 => h1.ret1 m1 r1⟩
    | If c a b pos =>
      simp only [compS, Option.bind_eq_some_iff, Option.map_eq_some_iff] at h
      obtain ⟨c', hc, a', ha, b', hb, rfl⟩ := h
      refine PS.imp (ps_if (ihT hc) (ihL ha) (ihL hb)) fun D σ H hq => ?_
      obtain ⟨ρ, S, F, μ, ml, mh, hh⟩ := hq
      have hh : EndS X W si.fr μ F ((evT call c' ρ S).st ρ fun k S1 => if k = true then evB call wf a' ρ S1 else evB call wf b' ρ S1) D := hh
      refine ⟨ρ, S, F, μ, ml, mh, hh.split ml fun v S1 xv H1 F1 _ l1 m1 r1 h1 => ?_⟩
      cases (show v = xv from r1)
      cases v with
      | true => exact ⟨ρ, S1, F1, μ, ml.mono l1, m1, h1⟩
      | false => exact ⟨ρ, S1, F1, μ, ml.mono l1, m1, h1⟩
    | For tg iter body orelse pos =>
      simp only [compS] at h
      split at h
      · simp only [Option.bind_eq_some_iff, Option.map_eq_some_iff] at h
        obtain ⟨t, ht, args, ha, b, hb, rfl⟩ := h
        refine snd_for g ht (optAll_sndL ihE ha) (fun es k p z => ?_) (ihL hb)
        subst z
        obtain ⟨b, r, q1, _, _⟩ := optAll_cons (show optAll (compE ci n sc) [.Set es k p] = some args from ha)
        rw [compE_set] at q1; cases q1
      · cases h
    | While c body orelse pos =>
      simp only [compS] at h
      split at h
      · simp only [Option.bind_eq_some_iff, Option.map_eq_some_iff] at h
        obtain ⟨c', hc, b, hb, rfl⟩ := h
        exact snd_while g (ihT hc) (ihL hb)
      · cases h
    | Pass pos =>
      cases h
      refine PS.imp ps_pass fun D σ H hq => ?_
      obtain ⟨ρ, S, F, μ, ml, mh, hh⟩ := hq
      exact (show ∀ σ' H' F' μ', _ → _ → _ → _ → _ → D.nx σ' H' from hh) σ H F μ (Le.refl _) (Fp.pre.refl _) rfl ml mh
    | Break pos =>
      cases h
      refine PS.imp ps_break fun D σ H hq => ?_
      obtain ⟨ρ, S, F, μ, ml, mh, hh⟩ := hq
      exact (show ∀ σ' H' F' μ', _ → _ → _ → _ → _ → D.bk σ' H' from hh) σ H F μ (Le.refl _) (Fp.pre.refl _) rfl ml mh
    | Continue pos =>
      cases h
      refine PS.imp ps_continue fun D σ H hq => ?_
      obtain ⟨ρ, S, F, μ, ml, mh, hh⟩ := hq
      exact (show ∀ σ' H' F' μ', _ → _ → _ → _ → _ → D.ct σ' H' from hh) σ H F μ (Le.refl _) (Fp.pre.refl _) rfl ml mh
    | Raise a b pos =>
      cases h
      refine PS.imp ps_never fun D σ H hq => ?_
      obtain ⟨ρ, S, F, μ, ml, mh, hh⟩ := hq
      exact (show False from hh).elim
    | _ => cases h
end
end DV

set_option Elab.async false
set_option linter.all false
set_option maxRecDepth 100000
set_option maxHeartbeats 4000000
/-! DV13: defs; the table of a text; the law's end. -/
namespace DV
open PySem PySem.Spec PyProof.Rows L2

/-- a def of the text: its statement, its names, its parameters, the names that hold cells, whether its list is new, its body -/
structure Dn where
  st : Stmt
  N : List Str
  ps : List Str
  mks : List Str
  fr : Bool
  body : List DS
abbrev Tb := List (Str × Dn)
def Dn.df (d : Dn) : Df := ⟨d.ps.length, d.N.length, d.fr, d.body⟩
def Tb.tab (t : Tb) : Tab := t.map fun p => (p.1, p.2.df)
def Tb.ci (t : Tb) (bis : List Str) (cs : List (Str × D)) (gc : List Str) (N : List Str) : CI := ⟨N, t.map fun p => (p.1, (p.2.ps.length, p.2.fr)), bis, cs, gc⟩
theorem lookup_map {α β : Type} (f : α → β) : ∀ (l : List (Str × α)) (x : Str), (l.map fun p => (p.1, f p.2)).lookup x = (l.lookup x).map f
  | [], _ => rfl
  | (y, a) :: l, x => by
    simp only [List.map_cons, List.lookup_cons]
    cases x == y
    · exact lookup_map f l x
    · rfl
structure DnOk (t : Tb) (bis : List Str) (cs : List (Str × D)) (gc : List Str) (x : Str) (d : Dn) : Prop where
  sc : FnScope d.N d.ps (defScope d.st)
  body : optAll (compS (t.ci bis cs gc d.N) ⟨d.mks, d.fr⟩ 40 (defScope d.st)) (defBody d.st) = some d.body
  bind : ∀ (kV doc pm : Value) (an : Option Addr) (cdv ct : Value) (us : List Value), us.length = d.ps.length → bindArgs (PySem.W.fnOf x x (defArgs d.st) (defBody d.st) (defScope d.st) .none kV doc pm an cdv ct) ⟨us, []⟩ = pure (d.ps.zip us)
/-- what the top has written -/
structure Wl (t : Tb) (bis : List Str) (cs : List (Str × D)) (gc : List Str) (K : PySem.W.Frag) (mg : Str → Option Value) : Prop where
  fn : ∀ x d, t.lookup x = some d → ∃ a fd, mg x = some (.ref a) ∧ Fun K x x d.st a fd
  bis : ∀ b ∈ bis, mg b = none
  gcds : ∀ b ∈ gc, mg b = some (.builtin "math.gcd")
  consts : ∀ x d, cs.lookup x = some d → ∃ u v, mg x = some u ∧ RelV v u ∧ ∀ F, Rep K F d v

section
variable {t : Tb} {bis gc : List Str} {cs : List (Str × D)} {K : PySem.W.Frag} {mg : Str → Option Value} {P : Program} {w : World} {base : Heap} {wf : Nat}
theorem Fp.take_pre {μ μ' : Fp} (p : μ.pre μ') (e : μ'.P = μ.P) {n : Nat} (h : n = μ.cs.length) : μ'.take n = μ := by
  obtain ⟨ν, q⟩ := p
  cases μ; cases μ'
  simp only [Fp.take] at *
  subst h; subst q; subst e
  simp
theorem RepSs.get {F : Hp} {μ : Fp} : ∀ {vs : List Sv} {xs : List V} {i : Nat} {v : Sv}, RepSs K F μ vs xs → vs[i]? = some v → ∃ x, xs[i]? = some x ∧ RepS K F μ v x
  | [], _, _, _, _, e => by simp at e
  | d :: ds, _, 0, _, ⟨v, vs, ev, h, r⟩, e => by subst ev; simp at e; subst e; exact ⟨v, rfl, h⟩
  | d :: ds, _, i + 1, _, ⟨v, vs, ev, h, r⟩, e => by
    subst ev
    obtain ⟨w, h1, h2⟩ := RepSs.get (i := i) r (by simpa using e)
    exact ⟨w, by simpa using h1, h2⟩
theorem ml_start {F : Hp} {μ : Fp} {N : List Str} {vs : List Sv} {xs : List V} (r : RepSs K F μ vs xs) (n : Nat) (hn : vs.length = n) : Ml K (L2.start N xs) (vs.map some ++ List.replicate (N.length - n) none) F μ := by
  have hl := r.length
  subst hn
  refine ⟨by simp [L2.start, hl], fun i v e => ?_⟩
  by_cases hi : i < vs.length
  · rw [List.getElem?_append_left (by simpa using hi), List.getElem?_map] at e
    cases q : vs[i]? with
    | none => rw [q] at e; cases e
    | some u =>
      rw [q] at e
      simp at e; subst e
      obtain ⟨x, h1, h2⟩ := r.get q
      refine ⟨x, ?_, h2⟩
      unfold L2.start
      rw [List.getElem?_append_left (by simp; omega), List.getElem?_map, h1]
      rfl
  · rw [List.getElem?_append_right (by simpa using hi), List.getElem?_replicate] at e
    split at e <;> cases e
/-- behind a body -/
theorem end_of {X : Cx} {E : XK} {fr : Bool} {μ : Fp} {F : Hp} {r : SR} {n : Nat} {Q : VK} (hK : X.K = K) (hmg : X.mg = mg) (hn : n = μ.cs.length) (h : End K mg E μ (if fr then RpF K μ else RpE K μ) F (finishR fr n r) Q) :
    EndS X (fun cls d _ H => E cls d H) fr μ F r { nx := fun _ H' => Q .non H', rt := Q } := by
  subst hK; subst hmg
  cases r with
  | nx ρ S =>
    intro σ' H' F' μ' l p e ml mh
    have m := mh.cut n
    rw [Fp.take_pre p e hn] at m
    exact (show ∀ b H' F', _ → _ → _ → Q b H' from h) .non H' F' l m (by cases fr <;> exact rfl)
  | bk ρ S => exact (show False from h).elim
  | ct ρ S => exact (show False from h).elim
  | bad => exact (show False from h).elim
  | exc x ρ S =>
    intro σ' H' F' μ' cls d l p e ml mh hx
    have m := mh.cut n
    rw [Fp.take_pre p e hn] at m
    exact (show ∀ H' F' cls d, _ → _ → _ → E cls d H' from h) H' F' cls d l m hx
  | ret v S =>
    intro b H' F' μ' l p e mh rp
    have m := mh.cut n
    rw [Fp.take_pre p e hn] at m
    have h : End X.K X.mg E μ (if fr then RpF X.K μ else RpE X.K μ) F (finish fr n v S) Q := h
    cases v with
    | p d =>
      have h : ∀ b H' F', Le F F' → Mh X.K H' (S.take n) F' μ → (if fr then RpF X.K μ else RpE X.K μ) F' H' (.p d) b → Q b H' := h
      refine h b H' F' l m ?_
      cases fr with
      | false => exact rp
      | true =>
        simp only [if_true] at rp ⊢
        cases d with
        | lst ds =>
          obtain ⟨a, vs, e1, q1, q2, q3, q4, q5⟩ := rp
          obtain ⟨ν, hν⟩ := p
          exact ⟨a, vs, e1, q1, q2, fun z => q3 (by rw [hν]; exact List.mem_append_left _ z), by rw [← e]; exact q4, q5⟩
        | _ => exact rp
    | c i =>
      have rp' : RepS X.K F' μ' (.c i) b := by cases fr <;> exact rp
      obtain ⟨a, ha, rfl⟩ := rp'
      have hfin : finish fr n (.c i) S = if i < n then (if fr then .bad else .ok (.c i) (S.take n)) else match S[i]? with
        | some (.lst xs) => .ok (.p (.lst xs)) (S.take n)
        | none => .bad := rfl
      rw [hfin] at h
      rcases Nat.lt_or_ge i n with hi | hi
      · rw [if_pos hi] at h
        cases fr with
        | true => exact (show False from h).elim
        | false =>
          refine (show ∀ b H' F', _ → _ → RepS X.K F' μ (.c i) b → Q b H' from h) _ H' F' l m ⟨a, ?_, rfl⟩
          obtain ⟨ν, hν⟩ := p
          rw [hν, List.getElem?_append_left (by omega)] at ha
          exact ha
      · rw [if_neg (Nat.not_lt.mpr hi)] at h
        cases hxs : S[i]? with
        | none => rw [hxs] at h; exact (show False from h).elim
        | some cc =>
          cases cc with
          | lst xs =>
            rw [hxs] at h
            dsimp only at h
            obtain ⟨vs, q1, q2⟩ := mh.cell i a _ ha hxs
            have hmem : a ∈ μ'.cs := List.mem_iff_getElem?.mpr ⟨i, ha⟩
            have hnot : a ∉ μ.cs := fun z => by
              obtain ⟨j, hj⟩ := List.mem_iff_getElem?.mp z
              have hjl := (List.getElem?_eq_some_iff.mp hj).1
              have hj' := p.get hj
              obtain ⟨h1, g1⟩ := List.getElem?_eq_some_iff.mp ha
              obtain ⟨h2, g2⟩ := List.getElem?_eq_some_iff.mp hj'
              have := (List.getElem_inj mh.nd).mp (g1.trans g2.symm)
              omega
            have hF := mh.off a hmem
            have hP : μ.P a = none := by
              cases q : μ.P a with
              | none => rfl
              | some o => exact absurd hmem (mh.gf a o (by rw [e]; exact q)).2
            cases fr with
            | false =>
              refine (show ∀ b H' F', _ → _ → Rep X.K F' (.lst xs) b → Q b H' from h) _ H' (upd F' a (.lst vs)) (l.trans (Le.upd hF)) (m.freeze q1 hF hnot hP) ⟨a, vs, rfl, upd_same, q2.mono (Le.upd hF)⟩
            | true =>
              exact (show ∀ b H' F', _ → _ → RepF X.K μ F' H' (.p (.lst xs)) b → Q b H' from h) _ H' F' l m ⟨a, vs, rfl, q1, hF, hnot, hP, q2⟩

theorem spD_len {call : CallF} {x : Str} {ar : Nat} {fr : Bool} {vs : List V} {H : Hp} {Q : VK} {E : XK} (h : spD K mg call x ar fr vs H Q E) : vs.length = ar := by
  obtain ⟨F, μ, S, ds, h1, _, h2, _⟩ := h
  rw [h2.length, h1]
/-- ALL DEFS of the text keep their promises -/
theorem fn_ok (wl : Wl t bis cs gc K mg) (ok : ∀ x d, t.lookup x = some d → DnOk t bis cs gc x d) : ∀ (k : Nat) (x : Str) (d : Dn), t.lookup x = some d → ∀ a fd, mg x = some (.ref a) → Fun K x x d.st a fd →
    FnOk P w K mg base (L2.CX P w) k a fd d.ps (spD K mg (callF t.tab wf k) x d.ps.length d.fr)
  | 0, x, d, hx, a, fd, hm, F => by
    refine ⟨fun vs H Q E h => spD_len h, fun A outer s H args us vs Q E hr he hb hv hs => ?_⟩
    obtain ⟨_, _, _, _, _, _, _, h⟩ := hs
    exact (show False from h).elim
  | k + 1, x, d, hx, a, fd, hm, F => by
    have o := ok x d hx
    refine F.okX o.sc (fun vs H Q E h => spD_len h) fun cdv A outer s H vs Q E hr hsp => ?_
    obtain ⟨F0, μ, S, ds, hlen, mh, rs, hend⟩ := hsp
    have g : GdS (t.ci bis cs gc d.N) (callF t.tab wf k) k (fun cls dd _ H => E cls dd H) (defScope d.st) (cxOf (L2.CX P w) P w K mg base d.N x (defScope d.st) a cdv A outer s H E) := by
      refine ⟨⟨rfl, o.sc.nd, rfl, rfl, fun _ _ => rfl, takes_of rfl rfl rfl rfl, hr, fun f ar fr hf => ?_, wl.bis, wl.gcds, wl.consts⟩, passes_of rfl, o.sc.kind⟩
      have hf' : (t.lookup f).map (fun p : Dn => (p.ps.length, p.fr)) = some (ar, fr) := by
        rw [← lookup_map]; exact hf
      simp only [Option.map_eq_some_iff, Prod.mk.injEq] at hf'
      obtain ⟨d', h1, rfl, rfl⟩ := hf'
      obtain ⟨a', fd', h2, F'⟩ := wl.fn f d' h1
      have o' := ok f d' h1
      exact ⟨a', fd', d'.ps, h2, rfl, F'.kp, F'.binds o'.bind, fn_ok wl ok k f d' h1 a' fd' h2 F'⟩
    refine ⟨rdS _ _ d.fr (evB (callF t.tab wf k) wf d.body), (optAll_sndS (fun {s dd} h => snd_S g 40 s dd h) o.body).pss, ?_⟩
    have hT : t.tab.lookup x = some d.df := by
      unfold Tb.tab
      rw [lookup_map, hx]
      rfl
    have hend : End K mg E μ (if d.fr then RpF K μ else RpE K μ) F0 (match t.tab.lookup x with
      | some dd => runDef (callF t.tab wf k) wf dd ds S
      | none => .bad) Q := hend
    rw [hT] at hend
    have hend : End K mg E μ (if d.fr then RpF K μ else RpE K μ) F0 (if ds.length = d.ps.length then finishR d.fr S.length (evB (callF t.tab wf k) wf d.body (ds.map some ++ List.replicate (d.N.length - d.ps.length) none) S) else .bad) Q := hend
    rw [if_pos hlen] at hend
    exact ⟨_, S, F0, μ, ml_start rs _ hlen, mh, end_of rfl rfl mh.mlen.symm hend⟩

theorem noSome {o : HO} (h : (none : Option HO) = some o) : False := by cases h
/-- the law's promise -/
def spLaw (K : PySem.W.Frag) (n : Nat) : Sp := fun vs H Q _ => ∃ (a : Addr) (ns : List Int), vs = [.ref a] ∧ SqL K H a (ns.map V.int) ∧ ns.length ≤ n ∧ ∀ H', Q (.bl true) H'
theorem law_ok (wl : Wl t bis cs gc K mg) (ok : ∀ x d, t.lookup x = some d → DnOk t bis cs gc x d) {k n : Nat} {d : Dn} {x : Str} (hx : t.lookup x = some d) (hps : d.ps.length = 1) (hfr : d.fr = false)
    (hv : ∀ ns : List Int, ns.length ≤ n → ∃ S, callF t.tab wf k x [.p (.scr ns)] [] = .ok (.p (.bl true)) S) {a : Addr} {fd : FuncData} (hm : mg x = some (.ref a)) (F : Fun K x x d.st a fd) :
    FnOk P w K mg base (L2.CX P w) k a fd d.ps (spLaw K n) := by
  refine (fn_ok (wf := wf) wl ok k x d hx a fd hm F).imp fun vs H Q E h => ?_
  obtain ⟨a, ns, rfl, hS, hl, q⟩ := h
  obtain ⟨S, hc⟩ := hv ns hl
  refine ⟨H, ⟨[], fun _ => none⟩, [], [.p (.scr ns)], by simp [hps], ⟨Le.refl _, rfl, fun i a c h => by simp at h, List.nodup_nil, fun a h => by simp at h, fun a o h => (noSome h).elim, fun a o h => (noSome h).elim⟩, ⟨_, _, rfl, ⟨a, rfl, hS⟩, rfl⟩, ?_⟩
  rw [hc, hfr]
  intro b H' F' l m r
  have : b = .bl true := r
  subst this
  exact q H'
end
end DV
namespace DV
open PySem PySem.Spec PyProof.Rows L2
/-- of each entry -/
def AllP {β : Type} (P : Str → β → Prop) : List (Str × β) → Prop
  | [] => True
  | p :: l => P p.1 p.2 ∧ AllP P l
theorem AllP.get {β : Type} {P : Str → β → Prop} : ∀ {l : List (Str × β)} {x : Str} {d : β}, AllP P l → l.lookup x = some d → P x d
  | [], _, _, _, h => by cases h
  | (y, e) :: l, x, d, ⟨h1, h2⟩, h => by
    rw [List.lookup_cons] at h
    cases q : x == y with
    | true =>
      rw [q] at h
      cases h
      rw [eq_of_beq q]; exact h1
    | false =>
      rw [q] at h
      exact AllP.get h2 h
def AllB (P : Str → Prop) : List Str → Prop
  | [] => True
  | b :: l => P b ∧ AllB P l
theorem AllB.get {P : Str → Prop} : ∀ {l : List Str} {x : Str}, AllB P l → x ∈ l → P x
  | [], _, _, h => by cases h
  | y :: l, x, ⟨h1, h2⟩, h => by
    rcases List.mem_cons.mp h with rfl | h
    · exact h1
    · exact AllB.get h2 h
/-- a def as the top has written it -/
def FnFact (K : PySem.W.Frag) (x : Str) (d : Dn) : Prop :=
  ∃ (f : Addr) (oc : Value) (od : Option Addr) (kV doc pm : Value) (an : Option Addr) (cdv ct : Value) (osl : Array (Option Value)),
    PySem.W.nsIn K mainGlobals x = some (some (.ref f)) ∧ K.lookup f = some ⟨oc, od, .func (PySem.W.fnOf x x (defArgs d.st) (defBody d.st) (defScope d.st) .none kV doc pm an cdv ct), osl⟩ ∧ PySem.W.codeIn K cdv x = true ∧ PySem.W.keepIn K (.ref f) = true
theorem FnFact.of {K : PySem.W.Frag} {x : Str} {d : Dn} {f : Addr} {oc : Value} {od : Option Addr} {kV doc pm : Value} {an : Option Addr} {cdv ct : Value} {osl : Array (Option Value)}
    (a : PySem.W.nsIn K mainGlobals x = some (some (.ref f))) (b : K.lookup f = some ⟨oc, od, .func (PySem.W.fnOf x x (defArgs d.st) (defBody d.st) (defScope d.st) .none kV doc pm an cdv ct), osl⟩) (c : PySem.W.codeIn K cdv x = true) (e : PySem.W.keepIn K (.ref f) = true) : FnFact K x d :=
  ⟨f, oc, od, kV, doc, pm, an, cdv, ct, osl, a, b, c, e⟩
def CsFact (K : PySem.W.Frag) (x : Str) (d : D) : Prop := ∃ (u : Value) (v : V), PySem.W.nsIn K mainGlobals x = some (some u) ∧ RelV v u ∧ ∀ F, Rep K F d v
theorem CsFact.int {K : PySem.W.Frag} {x : Str} {i : Int} {t : Tok} (a : PySem.W.nsIn K mainGlobals x = some (some (.int i t))) : CsFact K x (.int i) := ⟨_, .int i, a, ⟨t, rfl⟩, fun _ => rfl⟩
theorem noCX {P : Program} : ∀ (w : World) (H : Hp) (s : Shared) (e : Value) (s' : Shared), L2.CX P w [] H s (fun _ _ _ => False) e s' → False := fun _ _ _ _ _ h => by
  obtain ⟨_, _, _, _, _, _, _, _, _, _, _, _, z⟩ := h
  exact z
theorem law_end {l : PySem.W.OpenLaw} {w : World} {t : Tb} {bis gc : List Str} {cs : List (Str × D)} {K : PySem.W.Frag} {mg : Str → Option Value} {h : Heap} {wf k n : Nat} {x : Str} {d : Dn} {fa : Addr}
    (ok : AllP (DnOk t bis cs gc) t) (hx : t.lookup x = some d) (hps : d.ps = [("script" : Str)]) (hfr : d.fr = false)
    (hv : ∀ ns : List Int, ns.length ≤ n → ∃ S, callF t.tab wf k x [.p (.scr ns)] [] = .ok (.p (.bl true)) S)
    (KX : K.In h) (G : h.Ns mainGlobals mg) (hmg : mg x = some (.ref fa))
    (fn : AllP (FnFact K) t) (fb : AllB (fun b => PySem.W.nsIn K mainGlobals b = some none) bis) (fg : AllB (fun b => PySem.W.nsIn K mainGlobals b = some (some (.builtin "math.gcd"))) gc) (fc : AllP (CsFact K) cs) :
    ∃ fd : FuncData, (∀ (s : Shared) (u : Value), BindsTo s fd ⟨[u], []⟩ [("script", u)]) ∧ ∀ base : Heap, K.In base → base.Ns mainGlobals mg → FnOk l.prog w K mg base (L2.CX l.prog w) k fa fd ["script"] (spLaw K n) := by
  have wl : Wl t bis cs gc K mg := by
    refine ⟨fun x d hx => ?_, fun b hb => PySem.W.mg_none_of KX G (fb.get hb), fun b hb => PySem.W.mg_of KX G (fg.get hb), fun x d hx => ?_⟩
    · obtain ⟨f, oc, od, kV, doc, pm, an, cdv, ct, osl, a1, l1, c1, k1⟩ := fn.get hx
      exact ⟨f, _, PySem.W.mg_of KX G a1, fun_mk l1 c1 k1⟩
    · obtain ⟨u, v, h1, h2, h3⟩ := fc.get hx
      exact ⟨u, v, PySem.W.mg_of KX G h1, h2, h3⟩
  have okL : ∀ x d, t.lookup x = some d → DnOk t bis cs gc x d := fun x d hx => ok.get hx
  obtain ⟨f, oc, od, kV, doc, pm, an, cdv, ct, osl, a1, l1, c1, k1⟩ := fn.get hx
  have e := hmg.symm.trans (PySem.W.mg_of KX G a1)
  cases e
  refine ⟨PySem.W.fnOf x x (defArgs d.st) (defBody d.st) (defScope d.st) .none kV doc pm an cdv ct, fun s u => ?_, fun base _ _ => ?_⟩
  rotate_left
  · have hh := law_ok (P := l.prog) (w := w) (base := base) (n := n) wl okL hx (by rw [hps]; rfl) hfr hv hmg (fun_mk l1 c1 k1)
    rw [hps] at hh
    exact hh
  · refine .of_eq ?_
    have hb := (okL x d hx).bind kV doc pm an cdv ct [u] (by rw [hps]; rfl)
    rw [hps] at hb
    exact hb
end DV

set_option Elab.async false
set_option linter.all false
set_option maxRecDepth 100000
set_option maxHeartbeats 4000000
/-! DV14: the laws' common defs. -/
namespace DV
open PySem
theorem callF_succ {T : Tab} {wf k : Nat} {x : Str} {d : Df} {vs : List Sv} {S : Store} (h : T.lookup x = some d) (hl : vs.length = d.ps) :
    callF T wf (k + 1) x vs S = finishR d.fr S.length (evB (callF T wf k) wf d.body (vs.map some ++ List.replicate (d.ns - d.ps) none) S) := by
  show (match T.lookup x with
    | some d => runDef (callF T wf k) wf d vs S
    | none => .bad) = _
  rw [h]
  exact if_pos hl
@[simp] theorem lget_zero {v : Sv} {ρ : Loc} : lget (some v :: ρ) 0 = some v := (rfl)
@[simp] theorem lget_succ {o : Option Sv} {ρ : Loc} {i : Nat} : lget (o :: ρ) (i + 1) = lget ρ i := by
  unfold lget
  rw [List.getElem?_cons_succ]
@[simp] theorem finishR_nx {fr : Bool} {n : Nat} {ρ : Loc} {S : Store} : finishR fr n (.nx ρ S) = .ok (.p .non) (S.take n) := (rfl)
@[simp] theorem finishR_ret {fr : Bool} {n : Nat} {d : D} {S : Store} : finishR fr n (.ret (.p d) S) = .ok (.p d) (S.take n) := (rfl)
theorem finishR_retc {fr : Bool} {n i : Nat} {S : Store} : finishR fr n (.ret (.c i) S) = if i < n then (if fr then .bad else .ok (.c i) (S.take n)) else match S[i]? with
    | some (.lst xs) => .ok (.p (.lst xs)) (S.take n)
    | none => .bad := rfl

def df_sort : Df := ⟨1, 1, false, [
  .ife (.or (.cmp .Is (.var 0) (.con .non)) (.isi (.var 0) .bool)) [.ret (.ife (.cmp .Is (.var 0) (.con .non)) (.con (.int 0)) (.con (.int 1)))] [],
  .ife (.or (.isi (.var 0) .int) (.isi (.var 0) .str)) [.ret (.ife (.isi (.var 0) .int) (.con (.int 2)) (.con (.int 3)))] [],
  .ret (.ife (.isi (.var 0) .tuple) (.con (.int 4)) (.ife (.isi (.var 0) .list) (.con (.int 5)) (.con (.int 6))))]⟩
def srt : D → Int
  | .non => 0 | .bl _ => 1 | .int _ => 2 | .str _ => 3 | .tup _ => 4 | .lst _ => 5 | _ => 6
def flatD : D → Bool
  | .scr _ => false | .fn _ => false | _ => true
theorem s_sort {T : Tab} {wf k : Nat} (h : T.lookup ("_law_sort" : Str) = some df_sort) (d : D) (hd : flatD d = true) (S : Store) : callF T wf (k + 1) "_law_sort" [.p d] S = .ok (.p (.int (srt d))) S := by
  rw [callF_succ h rfl]
  cases d <;> simp [df_sort, evB, evS, evT, evE, cmpD, isiD, srt, flatD, truD, List.replicate] at hd ⊢
def df_cup : Df := ⟨1, 2, true, [
  .asg (.name 1) (.bi .abs [(.ix (.bin .Add (.bi .list [(.var 0)]) (.lst [(.con (.int 0))])) (.con (.int 0)))]),
  .retF (.lst [(.ife (.cmp .GtE (.var 1) (.bin .Pow (.con (.int 10)) (.con (.int 18)))) (.bin .FloorDiv (.var 1) (.con (.int 109))) (.con (.int 0))), (.bin .Add (.bin .Mod (.bi .int [(.bin .Add (.bin .Mult (.var 1) (.con (.int 359))) (.con (.int 5209)))]) (.con (.int 1994129363))) (.con (.int 223)))])]⟩
def df_roll : Df := ⟨2, 4, false, [
  .ife (.cmp .Gt (.ix (.var 0) (.con (.int 0))) (.con (.int 0))) [.asg (.name 2) (.bin .Mod (.bi .int [(.ix (.var 0) (.con (.int 0)))]) (.var 1)), .setix (.var 0) (.con (.int 0)) (.bin .FloorDiv (.ix (.var 0) (.con (.int 0))) (.var 1)), .ret (.var 2)] [],
  .setix (.var 0) (.con (.int 1)) (.bin .Mod (.bi .int [(.bin .Add (.bin .Mult (.ix (.var 0) (.con (.int 1))) (.con (.int 30103))) (.con (.int 8923)))]) (.con (.int 2147483543))),
  .asg (.name 3) (.bin .Mod (.bi .int [(.bin .Mult (.ix (.var 0) (.con (.int 1))) (.bin .Add (.ix (.var 0) (.con (.int 1))) (.con (.int 283))))]) (.con (.int 2147483587))),
  .ret (.bin .Mod (.bi .int [(.bin .FloorDiv (.var 3) (.con (.int 881)))]) (.var 1))]⟩
def df_some : Df := ⟨2, 2, false, [
  .ret (.ix (.var 1) (.call "_law_roll" false [(.var 0), (.bi .len [(.var 1)])]))]⟩
def df_like : Df := ⟨2, 6, false, [
  .asg (.name 2) (.call "_law_sort" false [(.var 1)]),
  .ife (.or (.cmp .NotEq (.call "_law_sort" false [(.var 0)]) (.var 2)) (.cmp .Eq (.var 2) (.con (.int 6)))) [.ret (.con (.bl false))] [],
  .ife (.cmp .In (.var 2) (.tup [(.con (.int 4)), (.con (.int 5))])) [.ret (.and (.cmp .Eq (.bi .len [(.var 0)]) (.bi .len [(.var 1)])) (.cmp .Eq (.lc (.con (.int 1)) (.tup [(.name 4), (.name 5)]) .zip [(.var 0), (.var 1)] [(.not (.call "_law_like" false [(.var 4), (.var 5)]))] [3, 4, 5]) (.lst [])))] [],
  .ret (.cmp .Eq (.var 0) (.var 1))]⟩

def Cup (a b : Int) : Cell := .lst [.int a, .int b]
def CupOk (a b : Int) : Prop := 0 ≤ a ∧ 0 ≤ b ∧ b < 2147483648
def Up (S S' : Store) : Prop := ∃ a b, CupOk a b ∧ S' = S.set 0 (Cup a b)
def Has (S : Store) : Prop := ∃ a b, CupOk a b ∧ S[0]? = some (Cup a b)
theorem Has.len {S : Store} (h : Has S) : 0 < S.length := by
  obtain ⟨a, b, _, h⟩ := h
  exact (List.getElem?_eq_some_iff.mp h).1
theorem Up.has {S S' : Store} (h : Has S) (u : Up S S') : Has S' := by
  obtain ⟨a, b, ok, rfl⟩ := u
  exact ⟨a, b, ok, List.getElem?_set_self h.len⟩
theorem Up.trans {S S' S'' : Store} (u : Up S S') (v : Up S' S'') : Up S S'' := by
  obtain ⟨a, b, ok, rfl⟩ := u
  obtain ⟨c, d, ok', rfl⟩ := v
  exact ⟨c, d, ok', List.set_set ..⟩
theorem Up.length {S S' : Store} (u : Up S S') : S'.length = S.length := by
  obtain ⟨a, b, ok, rfl⟩ := u
  simp
theorem Up.refl {S : Store} (h : Has S) : Up S S := by
  obtain ⟨a, b, ok, h⟩ := h
  refine ⟨a, b, ok, ?_⟩
  cases S with
  | nil => cases h
  | cons c S => simp at h; subst h; rfl
theorem Up.take {S S' : Store} (u : Up S S') : S'.take S.length = S' := List.take_of_length_le (by rw [u.length]; exact Nat.le_refl _)
theorem smallI_of {i : Int} (h1 : -(2 ^ 64) < i) (h2 : i < 2 ^ 64) : smallI i := ⟨h1, h2⟩
theorem log2_64 {i : Int} (h0 : 0 ≤ i) (h : i < 2 ^ 64) : i.natAbs.log2 < 64 := by
  by_cases hz : i.natAbs = 0
  · rw [hz]; decide
  · rw [Nat.log2_lt hz]
    have e : (2 : Int) ^ 64 = 18446744073709551616 := by decide
    have e2 : (2 : Nat) ^ 64 = 18446744073709551616 := by decide
    rw [e] at h
    rw [e2]
    omega
theorem divOK_of {m : Int} (h0 : 0 < m) (h : m < 2 ^ 64) : divOK m := ⟨by omega, Nat.lt_trans (log2_64 (by omega) h) (by decide)⟩
theorem atI0 {α : Type} {x : α} {xs : List α} : L2.atI (x :: xs) 0 = some x := by
  unfold L2.atI L2.ixN
  rw [if_pos (by decide), if_pos (by simp)]
  rfl
theorem atI1 {α : Type} {x y : α} {xs : List α} : L2.atI (x :: y :: xs) 1 = some y := by
  unfold L2.atI L2.ixN
  rw [if_pos (by decide), if_pos (by simp; omega)]
  rfl
theorem s_roll {T : Tab} {wf k : Nat} (h : T.lookup ("_law_roll" : Str) = some df_roll) {m : Int} (h0 : 0 < m) (h1 : m < 2 ^ 64) {S : Store} (hS : Has S) :
    ∃ v S', 0 ≤ v ∧ v < m ∧ Up S S' ∧ callF T wf (k + 1) "_law_roll" [.c 0, .p (.int m)] S = .ok (.p (.int v)) S' := by
  obtain ⟨a, b, ok, e⟩ := hS
  have hl := (List.getElem?_eq_some_iff.mp e).1
  have hd := divOK_of h0 h1
  have hm : m ≠ 0 := by omega
  by_cases ha : 0 < a
  · refine ⟨a.fmod m, S.set 0 (Cup (a.fdiv m) b), Int.fmod_nonneg_of_pos _ h0, Int.fmod_lt_of_pos _ h0, ⟨_, _, ⟨Int.fdiv_nonneg (by omega) (by omega), ok.2⟩, rfl⟩, ?_⟩
    rw [callF_succ h rfl]
    simp [df_roll, evB, evS, evT, evE, evL, der, ders, e, Cup, ixD, atI0, atI1, cmpD, binD, ha, hm, hd, biF, biInt, bindT, L2.ixN, List.replicate, List.take_of_length_le]
  · have hb := ok.2.1
    have hb2 := ok.2.2
    have q1 : 0 ≤ (b * 30103 + 8923).fmod 2147483543 := Int.fmod_nonneg_of_pos _ (by decide)
    have q2 : (b * 30103 + 8923).fmod 2147483543 < 2147483543 := Int.fmod_lt_of_pos _ (by decide)
    refine ⟨((((b * 30103 + 8923).fmod 2147483543 * ((b * 30103 + 8923).fmod 2147483543 + 283)).fmod 2147483587).fdiv 881).fmod m, S.set 0 (Cup a ((b * 30103 + 8923).fmod 2147483543)), Int.fmod_nonneg_of_pos _ h0, Int.fmod_lt_of_pos _ h0, ⟨_, _, ⟨ok.1, q1, by omega⟩, rfl⟩, ?_⟩
    · rw [callF_succ h rfl]
      have hmul : ∀ i : Int, mulOK ((b * 30103 + 8923).fmod 2147483543) i := fun i => .inl ⟨by omega, by omega⟩
      have hmul2 : mulOK b 30103 := .inr (.inl (by decide))
      have hset : ∀ c : Cell, (S.set 0 c)[0]? = some c := fun c => List.getElem?_set_self hl
      clear hl
      simp [df_roll, evB, evS, evT, evE, evL, der, ders, e, Cup, ixD, atI0, atI1, cmpD, binD, ha, hm, hd, biF, biInt, bindT, L2.ixN, List.replicate, List.take_of_length_le, hmul, hmul2, hset, show divOK 881 from by decide]
theorem s_cup {T : Tab} {wf k : Nat} (h : T.lookup ("_law_cup" : Str) = some df_cup) (ns : List Int) (hl : ns.length ≤ 1000) :
    ∃ a b, CupOk a b ∧ callF T wf (k + 1) "_law_cup" [.p (.scr ns)] [] = .ok (.p (.lst [.int a, .int b])) [] := by
  obtain ⟨x, r, e⟩ : ∃ x r, ns.map D.int ++ [D.int 0] = .int x :: r := by
    cases ns with
    | nil => exact ⟨0, [], rfl⟩
    | cons n ns => exact ⟨n, _, rfl⟩
  have hsz : ns.length + 1 ≤ sizeLine := by
    have : 1001 ≤ sizeLine := by decide
    omega
  have hy : 0 ≤ (if x < 0 then -x else x) := by split <;> omega
  generalize hyd : (if x < 0 then -x else x) = y at hy
  refine ⟨if 10 ^ 18 ≤ y then y.fdiv 109 else 0, (y * 359 + 5209).fmod 1994129363 + 223, ⟨?_, ?_, ?_⟩, ?_⟩
  · split
    · exact Int.fdiv_nonneg hy (by decide)
    · decide
  · have := Int.fmod_nonneg_of_pos (y * 359 + 5209) (b := 1994129363) (by decide)
    omega
  · have := Int.fmod_lt_of_pos (y * 359 + 5209) (b := 1994129363) (by decide)
    omega
  · rw [callF_succ h rfl]
    have hm : mulOK y 359 := .inr (.inl (by decide))
    simp [df_cup, evB, evS, evT, evE, evL, der, ders, ixD, e, atI0, cmpD, binD, biF, biInt, biAbs, biList, bindT, List.replicate, hsz, hyd, hm, show divOK 109 from by decide, show powOK 10 18 from by decide, frsh]
    split <;> simp [pures]
theorem s_some {T : Tab} {wf k : Nat} (h : T.lookup ("_law_roll" : Str) = some df_roll) (h' : T.lookup ("_law_some" : Str) = some df_some) {xs : List D} (h0 : xs ≠ []) (h1 : xs.length < 1000) {S : Store} (hS : Has S) :
    ∃ x S', x ∈ xs ∧ Up S S' ∧ callF T wf (k + 2) "_law_some" [.c 0, .p (.lst xs)] S = .ok (.p x) S' := by
  have hp : 0 < xs.length := List.length_pos_iff.mpr h0
  obtain ⟨v, S', v0, v1, u, e⟩ := s_roll (wf := wf) (k := k) h (m := (xs.length : Int)) (by omega) (by omega) hS
  have hv : v.toNat < xs.length := by omega
  refine ⟨xs[v.toNat], S', List.getElem_mem hv, u, ?_⟩
  rw [callF_succ h' rfl]
  have hat : L2.atI xs v = some xs[v.toNat] := by
    unfold L2.atI L2.ixN
    rw [if_pos v0, if_pos v1]
    exact List.getElem?_eq_getElem hv
  simp [df_some, evB, evS, evT, evE, evL, der, ders, ixD, biF, biLen, List.replicate, e, hat, u.take]
end DV

set_option Elab.async false
set_option linter.all false
set_option maxRecDepth 100000
set_option maxHeartbeats 4000000
/-! DV15: comprehensions and loops without a heap; _law_like. -/
namespace DV
open PySem
section
variable {call : CallF} {wf : Nat}
theorem lcL_pure {turn : D → Store → R (Option D)} {W : Watch} {S : Store} (g : D → Option D) (hw : watched W S = true) : ∀ {ds : List D}, (∀ d ∈ ds, turn d S = .ok (g d) S) → lcL turn W ds S = .ok (ds.filterMap g) S
  | [], _ => by
    unfold lcL
    rw [if_pos hw]
    rfl
  | d :: ds, h => by
    unfold lcL
    rw [if_pos hw, h d List.mem_cons_self]
    simp only [R.nox_ok, R.bind_ok]
    rw [lcL_pure g hw fun d hd => h d (List.mem_cons_of_mem _ hd)]
    simp only [R.bind_ok, List.filterMap_cons]
    cases g d <;> rfl
theorem lc_pure {elt : DE} {tg : DT} {k : IK} {args ifs : List DE} {own : List Nat} {ρ : Loc} {S : Store} {vs : List Sv} {ds : List D} {W : Watch} (ha : evL call args ρ S = .ok vs S) (hi : itemsOf k vs S = some (ds, W)) (hw : watched W S = true)
    (g : D → Option D) (hg : ∀ d ∈ ds, lcTurn call elt tg ifs own ρ d S = .ok (g d) S) (hl : ds.length ≤ sizeLine) : evE call (.lc elt tg k args ifs own) ρ S = .ok (.p (.lst (ds.filterMap g))) S := by
  rw [evE_lc]
  unfold evI
  rw [ha]
  simp only [R.bind_ok, hi, R.of_some]
  rw [lcL_pure g hw hg]
  simp only [R.bind_ok]
  rw [if_pos (Nat.le_trans (List.length_filterMap_le _ _) hl)]
/-- a comprehension whose turns change the store: a relation on stores is kept -/
theorem lcL_run {turn : D → Store → R (Option D)} {P : D → D → Prop} {V : Store → Store → Prop} (refl : ∀ S, V S S) (tr : ∀ S S' S'', V S S' → V S' S'' → V S S'') {S0 : Store} : ∀ {ds : List D} {S : Store}, V S0 S →
    (∀ d ∈ ds, ∀ S, V S0 S → ∃ y S', turn d S = .ok (some y) S' ∧ V S S' ∧ P d y) → ∃ ys S', lcL turn [] ds S = .ok ys S' ∧ V S S' ∧ ys.length = ds.length ∧ ∀ p ∈ ds.zip ys, P p.1 p.2
  | [], S, h0, _ => ⟨[], S, by unfold lcL; rfl, refl S, rfl, fun p hp => by cases hp⟩
  | d :: ds, S, h0, h => by
    obtain ⟨y, S1, e1, v1, p1⟩ := h d List.mem_cons_self S h0
    obtain ⟨ys, S2, e2, v2, l2, p2⟩ := lcL_run refl tr (tr _ _ _ h0 v1) (ds := ds) (S := S1) fun d hd => h d (List.mem_cons_of_mem _ hd)
    refine ⟨y :: ys, S2, ?_, tr _ _ _ v1 v2, by simp [l2], fun p hp => ?_⟩
    · unfold lcL
      rw [if_pos watched_nil, e1]
      simp only [R.nox_ok, R.bind_ok]
      rw [e2]
      rfl
    · rcases List.mem_cons.mp (show p ∈ (d, y) :: ds.zip ys from hp) with rfl | hp
      · exact p1
      · exact p2 p hp
/-- a loop whose turns all end: I is kept -/
theorem forL_all {tg : DT} {body : Loc → Store → SR} {W : Watch} (I : Nat → Loc → Store → Prop) : ∀ (ds : List D) (i : Nat) (ρ : Loc) (S : Store), I i ρ S →
    (∀ j ρ S, I j ρ S → watched W S = true) →
    (∀ j (h : j < ds.length) ρ S, I (i + j) ρ S → ∃ ρ1 ρ2 S2, bindT tg (.p ds[j]) ρ = some ρ1 ∧ (body ρ1 S = .nx ρ2 S2 ∨ body ρ1 S = .ct ρ2 S2) ∧ I (i + j + 1) ρ2 S2) →
    ∃ ρ' S', forL tg body W ds ρ S = .nx ρ' S' ∧ I (i + ds.length) ρ' S'
  | [], i, ρ, S, h0, hw, _ => ⟨ρ, S, by unfold forL; rw [if_pos (hw _ _ _ h0)], h0⟩
  | d :: ds, i, ρ, S, h0, hw, h => by
    obtain ⟨ρ1, ρ2, S2, e1, e2, h2⟩ := h 0 (by simp) ρ S h0
    obtain ⟨ρ', S', e3, h3⟩ := forL_all I ds (i + 1) ρ2 S2 h2 hw fun j hj ρ S hI => by
      have := h (j + 1) (by simpa using hj) ρ S (by rw [show i + (j + 1) = i + 1 + j by omega]; exact hI)
      rw [show i + (j + 1) + 1 = i + 1 + j + 1 by omega] at this
      simpa using this
    refine ⟨ρ', S', ?_, by rw [show i + (d :: ds).length = i + 1 + ds.length by simp; omega]; exact h3⟩
    unfold forL
    rw [if_pos (hw _ _ _ h0)]
    have e1' : bindT tg (.p d) ρ = some ρ1 := e1
    rw [e1']
    rcases e2 with e2 | e2 <;> (simp only [e2, SR.turn_nx, SR.turn_ct]; exact e3)
/-- a loop that hands back at the j-th turn -/
theorem forL_ret {tg : DT} {body : Loc → Store → SR} {W : Watch} (I : Nat → Loc → Store → Prop) {v : Sv} {Sr : Store} : ∀ (ds : List D) (n i : Nat) (ρ : Loc) (S : Store), I i ρ S →
    (∀ j ρ S, I j ρ S → watched W S = true) → (hn : n < ds.length) →
    (∀ j (h : j < n) ρ S, I (i + j) ρ S → ∃ ρ1 ρ2 S2, bindT tg (.p ds[j]) ρ = some ρ1 ∧ (body ρ1 S = .nx ρ2 S2 ∨ body ρ1 S = .ct ρ2 S2) ∧ I (i + j + 1) ρ2 S2) →
    (∀ ρ S, I (i + n) ρ S → ∃ ρ1, bindT tg (.p ds[n]) ρ = some ρ1 ∧ body ρ1 S = .ret v Sr) →
    forL tg body W ds ρ S = .ret v Sr
  | [], n, i, ρ, S, h0, hw, hn, _, _ => by simp at hn
  | d :: ds, 0, i, ρ, S, h0, hw, hn, _, hr => by
    obtain ⟨ρ1, e1, e2⟩ := hr ρ S h0
    unfold forL
    rw [if_pos (hw _ _ _ h0)]
    have e1' : bindT tg (.p d) ρ = some ρ1 := e1
    rw [e1']
    simp only [e2, SR.turn_ret]
  | d :: ds, n + 1, i, ρ, S, h0, hw, hn, h, hr => by
    obtain ⟨ρ1, ρ2, S2, e1, e2, h2⟩ := h 0 (by omega) ρ S h0
    have e3 := forL_ret I (v := v) (Sr := Sr) ds n (i + 1) ρ2 S2 h2 hw (by simpa using hn) (fun j hj ρ S hI => by
      have := h (j + 1) (by omega) ρ S (by rw [show i + (j + 1) = i + 1 + j by omega]; exact hI)
      rw [show i + (j + 1) + 1 = i + 1 + j + 1 by omega] at this
      simpa using this) (fun ρ S hI => by
      have := hr ρ S (by rw [show i + (n + 1) = i + 1 + n by omega]; exact hI)
      simpa using this)
    unfold forL
    rw [if_pos (hw _ _ _ h0)]
    have e1' : bindT tg (.p d) ρ = some ρ1 := e1
    rw [e1']
    rcases e2 with e2 | e2 <;> (simp only [e2, SR.turn_nx, SR.turn_ct]; exact e3)
end

/-! ### data -/
def okD : Nat → D → Bool
  | _, .non => true
  | _, .bl _ => true
  | _, .int _ => true
  | _, .str x => PyData.strOk x
  | n + 1, .tup xs => decide (xs.length ≤ 1000) && xs.all (okD n)
  | n + 1, .lst xs => decide (xs.length ≤ 1000) && xs.all (okD n)
  | _, _ => false
theorem eqD_nil {r : List D} (h : ∀ d ∈ r, d = .int 1) : eqD (.lst r) (.lst []) = some r.isEmpty := by
  have e : ∀ r : List D, (∀ d ∈ r, d = .int 1) → toPys r = some (List.replicate r.length (.int 1)) ∧ PyData.canLayAll0 (List.replicate r.length (.int 1)) = true ∧ PyData.depthAll (List.replicate r.length (.int 1)) = 0 := by
    intro r
    induction r with
    | nil => intro _; exact ⟨rfl, rfl, rfl⟩
    | cons d r ih =>
      intro h
      obtain ⟨h1, h2, h3⟩ := ih fun d hd => h d (List.mem_cons_of_mem _ hd)
      rw [h d List.mem_cons_self]
      refine ⟨?_, ?_, ?_⟩
      · simp only [toPys, toPy, h1]
        rfl
      · simp only [List.length_cons, List.replicate_succ, PyData.canLayAll0, PyData.canLay0, h2, Bool.and_self]
      · simp only [List.length_cons, List.replicate_succ, PyData.depthAll, PyData.depth, h3]
        rfl
  obtain ⟨h1, h2, h3⟩ := e r h
  have s1 : SeqAt.shaped (.list (List.replicate r.length (.int 1))) = true := by
    simp [SeqAt.shaped, PyData.canLay0, PyData.depth, h2, h3]
  have s2 : SeqAt.shaped (.list []) = true := rfl
  simp only [eqD, toPy, h1, toPys, Option.map_some, s1, s2, and_self, if_true]
  cases r <;> rfl
theorem eqD_scalar {x y : D} (h : srt x = srt y) (h4 : srt x < 4) (hx : ∀ n, okD n x = true) (hy : ∀ n, okD n y = true) : eqD x y = some (decide (x = y)) := by
  have key : ∀ {a b : Bool}, a = b → some a = some b := fun h => by rw [h]
  have a := hx 0
  have b := hy 0
  cases x <;> cases y <;> simp [srt] at h h4
  all_goals (simp [okD] at a b; simp [eqD, toPy, SeqAt.shaped, PyData.canLay0, PyData.depth, PyData.eqv, a, b]; try (rw [Bool.eq_iff_iff]; simp))
theorem okD_any {n : Nat} {x : D} (h : okD n x = true) (h4 : srt x < 4) : ∀ m, okD m x = true := fun m => by
  cases x <;> simp [srt] at h4 <;> first | (cases m <;> rfl) | (cases n <;> cases m <;> exact h)
theorem okD_flat {n : Nat} {x : D} (h : okD n x = true) : flatD x = true := by
  cases x <;> first | rfl | (cases n <;> simp [okD] at h)
theorem okD_elems {n : Nat} {xs : List D} (h : okD n (.tup xs) = true ∨ okD n (.lst xs) = true) : ∃ m, n = m + 1 ∧ xs.length ≤ 1000 ∧ ∀ d ∈ xs, okD m d = true := by
  cases n with
  | zero => rcases h with h | h <;> cases h
  | succ m =>
    refine ⟨m, rfl, ?_⟩
    rcases h with h | h <;> (simp only [okD, Bool.and_eq_true, decide_eq_true_eq, List.all_eq_true] at h; exact h)
theorem zip_like {xs ys : List D} (hl : xs.length = ys.length) : ((zipD xs ys).filterMap fun d => match d with
    | .tup [a, b] => if a = b then none else some (D.int 1)
    | _ => none).isEmpty = decide (xs = ys) := by
  induction xs generalizing ys with
  | nil => cases ys <;> simp [zipD] at hl ⊢
  | cons x xs ih =>
    cases ys with
    | nil => simp at hl
    | cons y ys =>
      have ih := ih (ys := ys) (by simpa using hl)
      simp only [zipD, List.zip_cons_cons, List.map_cons, List.filterMap_cons] at ih ⊢
      by_cases e : x = y
      · simp only [e, if_true]
        rw [ih]
        simp
      · simp [e]
theorem eqD_int {a b : Int} : eqD (.int a) (.int b) = some (decide (a = b)) := by
  simp [eqD, toPy, SeqAt.shaped, PyData.canLay0, PyData.depth, PyData.eqv]
  rw [Bool.eq_iff_iff]; simp
theorem like_step {T : Tab} {wf k : Nat} (h : T.lookup ("_law_sort" : Str) = some df_sort) (h' : T.lookup ("_law_like" : Str) = some df_like) {S : Store} {n : Nat} {x y : D} (hx : okD n x = true) (hy : okD n y = true)
    (ih : ∀ m, n = m + 1 → ∀ a b, okD m a = true → okD m b = true → callF T wf (k + 1) "_law_like" [.p a, .p b] S = .ok (.p (.bl (decide (a = b)))) S) :
    callF T wf (k + 2) "_law_like" [.p x, .p y] S = .ok (.p (.bl (decide (x = y)))) S := by
  have e1 := s_sort (wf := wf) (k := k) h x (okD_flat hx) S
  have e2 := s_sort (wf := wf) (k := k) h y (okD_flat hy) S
  rw [callF_succ h' rfl]
  by_cases hs : srt x = srt y
  · have y6 : srt y ≠ 6 := by cases y <;> first | (simp [srt]; done) | (cases n <;> simp [okD] at hy)
    by_cases h4 : srt x < 4
    · have e3 := eqD_scalar hs h4 (okD_any hx h4) (okD_any hy (by rw [← hs]; exact h4))
      have hin : isIn (.int (srt y)) (.tup [.int 4, .int 5]) = some false := by
        have : srt y < 4 := by rw [← hs]; exact h4
        simp [isIn, toPy, toPys, SeqAt.shaped, PyData.canLay0, PyData.canLayAll0, PyData.depth, PyData.depthAll, PyData.eqv]
        omega
      simp [df_like, evB, evS, evE, evT, evL, cmpD, List.replicate, e1, e2, eqD_int, hs, bindT, y6, hin, pures, e3]
    · have lst : ∀ xs ys : List D, (∃ m, n = m + 1 ∧ xs.length ≤ 1000 ∧ ∀ d ∈ xs, okD m d = true) → (∃ m, n = m + 1 ∧ ys.length ≤ 1000 ∧ ∀ d ∈ ys, okD m d = true) → ∀ (ρ : Loc) (vs : List Sv), evL (callF T wf (k + 1)) [.var 0, .var 1] ρ S = .ok vs S → itemsOf .zip vs S = some (zipD xs ys, []) → xs.length = ys.length →
          (∀ a b : D, bindT (.tup [.name 4, .name 5]) (.p (.tup [a, b])) (wipeρ ρ [3, 4, 5]) = some (((wipeρ ρ [3, 4, 5]).set 4 (some (.p a))).set 5 (some (.p b)))) → ρ.length = 6 →
          evE (callF T wf (k + 1)) (.lc (.con (.int 1)) (.tup [(.name 4), (.name 5)]) .zip [(.var 0), (.var 1)] [(.not (.call "_law_like" false [(.var 4), (.var 5)]))] [3, 4, 5]) ρ S = .ok (.p (.lst ((zipD xs ys).filterMap fun d => match d with
            | .tup [a, b] => if a = b then none else some (D.int 1)
            | _ => none))) S := by
        intro xs ys ⟨m, hm, lx, ox⟩ ⟨m', hm', ly, oy⟩ ρ vs ha hi hl hb hρ
        have : m' = m := by omega
        subst this
        refine lc_pure ha hi rfl _ (fun d hd => ?_) ?_
        · obtain ⟨i, hi⟩ := List.mem_iff_getElem?.mp hd
          obtain ⟨a, b, q1, q2, rfl⟩ := zipD_get hi
          have ra := ih _ hm a b (ox a (List.mem_of_getElem? q1)) (oy b (List.mem_of_getElem? q2))
          unfold lcTurn
          rw [hb a b]
          have g4 : lget (((wipeρ ρ [3, 4, 5]).set 4 (some (.p a))).set 5 (some (.p b))) 4 = some (.p a) := by
            unfold lget
            rw [List.getElem?_set_ne (by decide), List.getElem?_set_self (by simp [wipeρ, hρ])]
          have g5 : lget (((wipeρ ρ [3, 4, 5]).set 4 (some (.p a))).set 5 (some (.p b))) 5 = some (.p b) := by
            unfold lget
            rw [List.getElem?_set_self (by simp [wipeρ, hρ])]
          generalize ((wipeρ ρ [3, 4, 5]).set 4 (some (.p a))).set 5 (some (.p b)) = ρ2 at g4 g5 ⊢
          by_cases e : a = b
          · subst e
            simp [evTs, evT, evL, evE, g4, g5, ra, truD]
          · simp [evTs, evT, evL, evE, g4, g5, ra, e, truD]
        · have : 1000 ≤ sizeLine := by decide
          simp [zipD]
          omega
      have hnil : ∀ xs ys : List D, xs.length = ys.length → eqD (.lst ((zipD xs ys).filterMap fun d => match d with
            | .tup [a, b] => if a = b then none else some (D.int 1)
            | _ => none)) (.lst []) = some (decide (xs = ys)) := fun xs ys hl => by
        rw [eqD_nil, zip_like hl]
        intro d hd
        obtain ⟨e, _, he⟩ := List.mem_filterMap.mp hd
        split at he
        · split at he
          · cases he
          · cases he; rfl
        · cases he
      have len : ∀ a b : Nat, eqD (.int a) (.int b) = some (decide (a = b)) := fun a b => by
        rw [eqD_int]
        exact congrArg some (by rw [Bool.eq_iff_iff]; simp; omega)
      have main : ∀ xs ys : List D, ((x = .tup xs ∧ y = .tup ys) ∨ (x = .lst xs ∧ y = .lst ys)) → finishR (df_like.fr) S.length (evB (callF T wf (k + 1)) wf df_like.body (List.map some [.p x, .p y] ++ List.replicate (df_like.ns - df_like.ps) none) S) = .ok (.p (.bl (decide (xs = ys)))) S := by
        intro xs ys hxy
        have hin : ∀ s : Int, (s = 4 ∨ s = 5) → isIn (.int s) (.tup [.int 4, .int 5]) = some true := fun s hs => by
          rcases hs with rfl | rfl <;> decide
        have sy : srt y = 4 ∨ srt y = 5 := by rcases hxy with ⟨_, rfl⟩ | ⟨_, rfl⟩ <;> simp [srt]
        have lx : biLen [x] = some (.int xs.length) := by rcases hxy with ⟨rfl, _⟩ | ⟨rfl, _⟩ <;> rfl
        have ly : biLen [y] = some (.int ys.length) := by rcases hxy with ⟨_, rfl⟩ | ⟨_, rfl⟩ <;> rfl
        have zi : itemsOf .zip [.p x, .p y] S = some (zipD xs ys, []) := by rcases hxy with ⟨rfl, rfl⟩ | ⟨rfl, rfl⟩ <;> rfl
        have ox : ∃ m, n = m + 1 ∧ xs.length ≤ 1000 ∧ ∀ d ∈ xs, okD m d = true := okD_elems (by rcases hxy with ⟨rfl, _⟩ | ⟨rfl, _⟩ <;> simp [hx])
        have oy : ∃ m, n = m + 1 ∧ ys.length ≤ 1000 ∧ ∀ d ∈ ys, okD m d = true := okD_elems (by rcases hxy with ⟨_, rfl⟩ | ⟨_, rfl⟩ <;> simp [hy])
        by_cases hl : xs.length = ys.length
        · have lc := lst xs ys ox oy [some (.p x), some (.p y), some (.p (.int (srt y))), none, none, none] [.p x, .p y] (by simp [evL, evE]) zi hl (fun a b => by simp [bindT, bindTs]) rfl
          simp [df_like, evB, evS, evE.eq_1, evE.eq_2, evE.eq_5, evE.eq_7, evE.eq_11, evE.eq_12, evE.eq_15, evE.eq_16, evT, evL, cmpD, List.replicate, e1, e2, eqD_int, hs, bindT, y6, hin _ sy, pures, ders, biF, lx, ly, lc, hnil xs ys hl, hl, len]
        · have hne : xs ≠ ys := fun z => hl (by rw [z])
          simp [df_like, evB, evS, evE.eq_1, evE.eq_2, evE.eq_5, evE.eq_7, evE.eq_11, evE.eq_12, evE.eq_15, evE.eq_16, evT, evL, cmpD, List.replicate, e1, e2, eqD_int, hs, bindT, y6, hin _ sy, pures, ders, biF, lx, ly, hl, len, hne]
      cases x <;> simp [srt] at h4 hs <;> cases y <;> simp at hs y6
      · rename_i xs ys
        rw [main xs ys (.inl ⟨rfl, rfl⟩)]
        simp
      · rename_i xs ys
        rw [main xs ys (.inr ⟨rfl, rfl⟩)]
        simp
      · cases n <;> simp [okD] at hx
      · cases n <;> simp [okD] at hx
      · cases n <;> simp [okD] at hx
      · cases n <;> simp [okD] at hx
  · have hne : x ≠ y := fun z => hs (by rw [z])
    simp [df_like, evB, evS, evE, evT, evL, cmpD, List.replicate, e1, e2, eqD_int, hs, bindT, hne]
theorem s_like {T : Tab} {wf : Nat} (h : T.lookup ("_law_sort" : Str) = some df_sort) (h' : T.lookup ("_law_like" : Str) = some df_like) (S : Store) : ∀ (n j : Nat) (x y : D), okD n x = true → okD n y = true →
    callF T wf (n + j + 2) "_law_like" [.p x, .p y] S = .ok (.p (.bl (decide (x = y)))) S
  | 0, j, x, y, hx, hy => by
    have := like_step (wf := wf) (k := j) h h' (S := S) hx hy (fun m hm => by omega)
    rw [show 0 + j + 2 = j + 2 by omega]
    exact this
  | n + 1, j, x, y, hx, hy => by
    have := like_step (wf := wf) (k := n + j + 1) h h' (S := S) hx hy (fun m hm a b ha hb => by
      have : m = n := by omega
      subst this
      exact s_like h h' S m j a b ha hb)
    rw [show n + 1 + j + 2 = n + j + 1 + 2 by omega]
    exact this
end DV

set_option Elab.async false
set_option linter.all false
set_option maxRecDepth 100000
set_option maxHeartbeats 4000000
/-! DV16: evaluation, as rewriting rules. -/
namespace DV
open PySem
theorem R.bind_congr {α β : Type} {r r' : R α} {f : α → Store → R β} (h : r = r') : r.bind f = r'.bind f := by rw [h]
theorem R.st_congr {α : Type} {r r' : R α} {ρ : Loc} {f : α → Store → SR} (h : r = r') : r.st ρ f = r'.st ρ f := by rw [h]
theorem SR.seq_congr {r r' : SR} {f : Loc → Store → SR} (h : r = r') : r.seq f = r'.seq f := by rw [h]
theorem SR.turn_congr {r r' : SR} {f : Loc → Store → SR} (h : r = r') : r.turn f = r'.turn f := by rw [h]
section
variable {call : CallF} {wf : Nat} {ρ : Loc} {S : Store}
@[simp] theorem evE_var {i : Nat} : evE call (.var i) ρ S = R.of (lget ρ i) S := (rfl)
@[simp] theorem evE_con {d : D} : evE call (.con d) ρ S = .ok (.p d) S := (rfl)
@[simp] theorem evE_bin {op : Operator} {a b : DE} : evE call (.bin op a b) ρ S = (evE call a ρ S).bind fun x S1 => (evE call b ρ S1).bind fun y S2 => match der S2 x, der S2 y with
    | some d, some e => R.of ((binD op d e).map .p) S2
    | _, _ => .bad := (rfl)
@[simp] theorem evE_neg {a : DE} : evE call (.neg a) ρ S = (evE call a ρ S).bind fun x S1 => match x with
    | .p (.int i) => .ok (.p (.int (-i))) S1
    | _ => .bad := (rfl)
@[simp] theorem evE_cmp {op : CmpOp} {a b : DE} : evE call (.cmp op a b) ρ S = (evE call a ρ S).bind fun x S1 => (evE call b ρ S1).bind fun y S2 => match der S2 x, der S2 y with
    | some d, some e => R.of ((cmpD op d e).map fun k => .p (.bl k)) S2
    | _, _ => .bad := (rfl)
@[simp] theorem evE_chain {op op' : CmpOp} {a b c : DE} : evE call (.chain op op' a b c) ρ S = (evE call a ρ S).bind fun x S1 => (evE call b ρ S1).bind fun y S2 => match x, y with
    | .p d, .p e => match cmpD op d e with
      | some true => (evE call c ρ S2).bind fun z S3 => match z with
        | .p f => R.of ((cmpD op' e f).map fun k => .p (.bl k)) S3
        | _ => .bad
      | some false => .ok (.p (.bl false)) S2
      | none => .bad
    | _, _ => .bad := (rfl)
@[simp] theorem evE_and {a b : DE} : evE call (.and a b) ρ S = (evE call a ρ S).bind fun x S1 => match x with
    | .p (.bl true) => evE call b ρ S1
    | .p (.bl false) => .ok (.p (.bl false)) S1
    | _ => .bad := (rfl)
@[simp] theorem evE_or {a b : DE} : evE call (.or a b) ρ S = (evE call a ρ S).bind fun x S1 => match x with
    | .p (.bl true) => .ok (.p (.bl true)) S1
    | .p (.bl false) => evE call b ρ S1
    | _ => .bad := (rfl)
@[simp] theorem evE_not {a : DE} : evE call (.not a) ρ S = (evE call a ρ S).bind fun x S1 => match x with
    | .p (.bl k) => .ok (.p (.bl (!k))) S1
    | _ => .bad := (rfl)
@[simp] theorem evE_ife {c a b : DE} : evE call (.ife c a b) ρ S = (evT call c ρ S).bind fun k S1 => if k = true then evE call a ρ S1 else evE call b ρ S1 := (rfl)
@[simp] theorem evE_tup {es : List DE} : evE call (.tup es) ρ S = (evL call es ρ S).bind fun vs S1 => match pures vs with
    | some ds => .ok (.p (.tup ds)) S1
    | none => .bad := (rfl)
@[simp] theorem evE_lst {es : List DE} : evE call (.lst es) ρ S = (evL call es ρ S).bind fun vs S1 => match pures vs with
    | some ds => .ok (.p (.lst ds)) S1
    | none => .bad := (rfl)
@[simp] theorem evE_ix {a i : DE} : evE call (.ix a i) ρ S = (evE call a ρ S).bind fun x S1 => (evE call i ρ S1).bind fun y S2 => match der S2 x, y with
    | some d, .p e => R.of ((ixD d e).map .p) S2
    | _, _ => .bad := (rfl)
@[simp] theorem evE_sl {a : DE} {lo hi : Option DE} : evE call (.sl a lo hi) ρ S = (evE call a ρ S).bind fun x S1 => (evO call lo ρ S1).bind fun l S2 => (evO call hi ρ S2).bind fun h S3 => match der S3 x with
    | some d => R.of ((slD d l h).map .p) S3
    | none => .bad := (rfl)
@[simp] theorem evE_call {x : Str} {fr : Bool} {es : List DE} : evE call (.call x fr es) ρ S = (evL call es ρ S).bind fun vs S1 => call x vs S1 := (rfl)
@[simp] theorem evE_bi {x : Bi} {es : List DE} : evE call (.bi x es) ρ S = (evL call es ρ S).bind fun vs S1 => match ders S1 vs with
    | some ds => R.of ((biF x ds).map .p) S1
    | none => .bad := (rfl)
@[simp] theorem evE_isi {a : DE} {T : Ty} : evE call (.isi a T) ρ S = (evE call a ρ S).bind fun x S1 => match der S1 x with
    | some d => R.of ((isiD d T).map fun k => .p (.bl k)) S1
    | none => .bad := (rfl)
@[simp] theorem evT_and {a b : DE} : evT call (.and a b) ρ S = (evT call a ρ S).bind fun k S1 => if k = true then evT call b ρ S1 else .ok false S1 := (rfl)
@[simp] theorem evT_or {a b : DE} : evT call (.or a b) ρ S = (evT call a ρ S).bind fun k S1 => if k = true then .ok true S1 else evT call b ρ S1 := (rfl)
@[simp] theorem evT_not {a : DE} : evT call (.not a) ρ S = (evT call a ρ S).bind fun k S1 => .ok (!k) S1 := (rfl)
@[simp] theorem evT_var {i : Nat} : evT call (.var i) ρ S = (R.of (lget ρ i) S).bind fun x S1 => R.of ((der S1 x).bind truD) S1 := (rfl)
@[simp] theorem evT_con {d : D} : evT call (.con d) ρ S = R.of (truD d) S := (rfl)
@[simp] theorem evT_cmp {op : CmpOp} {a b : DE} : evT call (.cmp op a b) ρ S = (evE call a ρ S).bind fun x S1 => (evE call b ρ S1).bind fun y S2 => match der S2 x, der S2 y with
    | some d, some e => R.of (cmpD op d e) S2
    | _, _ => .bad := (rfl)
@[simp] theorem evT_chain {op op' : CmpOp} {a b c : DE} : evT call (.chain op op' a b c) ρ S = (evE call a ρ S).bind fun x S1 => (evE call b ρ S1).bind fun y S2 => match x, y with
    | .p d, .p e => match cmpD op d e with
      | some true => (evE call c ρ S2).bind fun z S3 => match z with
        | .p f => R.of (cmpD op' e f) S3
        | _ => .bad
      | some false => .ok false S2
      | none => .bad
    | _, _ => .bad := (rfl)
@[simp] theorem evT_call {x : Str} {fr : Bool} {es : List DE} : evT call (.call x fr es) ρ S = (evL call es ρ S).bind fun vs S1 => (call x vs S1).bind fun x S2 => R.of ((der S2 x).bind truD) S2 := (rfl)
@[simp] theorem evT_bi {x : Bi} {es : List DE} : evT call (.bi x es) ρ S = (evL call es ρ S).bind fun vs S1 => match ders S1 vs with
    | some ds => R.of ((biF x ds).bind truD) S1
    | none => .bad := (rfl)
@[simp] theorem evT_isi {a : DE} {T : Ty} : evT call (.isi a T) ρ S = (evE call a ρ S).bind fun x S1 => match der S1 x with
    | some d => R.of (isiD d T) S1
    | none => .bad := (rfl)
@[simp] theorem evT_ix {a i : DE} : evT call (.ix a i) ρ S = (evE call a ρ S).bind fun x S1 => (evE call i ρ S1).bind fun y S2 => match der S2 x, y with
    | some d, .p e => R.of ((ixD d e).bind truD) S2
    | _, _ => .bad := (rfl)
@[simp] theorem evT_bin {op : Operator} {a b : DE} : evT call (.bin op a b) ρ S = (evE call a ρ S).bind fun x S1 => (evE call b ρ S1).bind fun y S2 => match der S2 x, der S2 y with
    | some d, some e => R.of ((binD op d e).bind truD) S2
    | _, _ => .bad := (rfl)
@[simp] theorem evL_nil : evL call [] ρ S = .ok [] S := (rfl)
@[simp] theorem evL_cons {e : DE} {es : List DE} : evL call (e :: es) ρ S = (evE call e ρ S).bind fun v S1 => (evL call es ρ S1).bind fun vs S2 => .ok (v :: vs) S2 := (rfl)
@[simp] theorem evO_none : evO call none ρ S = .ok none S := (rfl)
@[simp] theorem evO_some {e : DE} : evO call (some e) ρ S = (evE call e ρ S).bind fun v S1 => match v with
    | .p (.int i) => .ok (some i) S1
    | _ => .bad := (rfl)
@[simp] theorem evTs_nil : evTs call [] ρ S = .ok true S := (rfl)
@[simp] theorem evTs_cons {e : DE} {es : List DE} : evTs call (e :: es) ρ S = (evT call e ρ S).bind fun k S1 => if k = true then evTs call es ρ S1 else .ok false S1 := (rfl)
@[simp] theorem evB_nil : evB call wf [] ρ S = .nx ρ S := (rfl)
@[simp] theorem evB_cons {s : DS} {ss : List DS} : evB call wf (s :: ss) ρ S = (evS call wf s ρ S).seq fun ρ S => evB call wf ss ρ S := (rfl)
@[simp] theorem evS_asg {tg : DT} {e : DE} : evS call wf (.asg tg e) ρ S = (evE call e ρ S).st ρ fun v S1 => SR.of (bindT tg v ρ) S1 := (rfl)
@[simp] theorem evS_new {i : Nat} {e : DE} : evS call wf (.new i e) ρ S = (evE call e ρ S).st ρ fun v S1 => match v with
    | .p (.lst xs) => if frsh e then .nx (ρ.set i (some (.c S1.length))) (S1 ++ [.lst xs]) else .bad
    | v => .nx (ρ.set i (some v)) S1 := (rfl)
@[simp] theorem evS_par {is : List Nat} {es : List DE} : evS call wf (.par is es) ρ S = (evL call es ρ S).st ρ fun vs S1 => if is.length = vs.length then .nx ((is.zip vs).foldl (fun ρ p => ρ.set p.1 (some p.2)) ρ) S1 else .bad := (rfl)
@[simp] theorem evS_aug {i : Nat} {op : Operator} {e : DE} : evS call wf (.aug i op e) ρ S = match lget ρ i with
    | some (.p d) => (evE call e ρ S).st ρ fun v S1 => match v with
      | .p e => (match d, e, binD op d e with
        | .int _, .int _, some r => .nx (ρ.set i (some (.p r))) S1
        | _, _, _ => .bad)
      | _ => .bad
    | _ => .bad := (rfl)
@[simp] theorem evS_setix {a i e : DE} : evS call wf (.setix a i e) ρ S = (evE call e ρ S).st ρ fun v S1 => (evE call a ρ S1).st ρ fun x S2 => (evE call i ρ S2).st ρ fun y S3 => match v, x, y with
    | .p d, .c j, .p (.int k) => (match S3[j]? with
      | some (.lst xs) => (match L2.ixN xs.length k with
        | some m => .nx ρ (S3.set j (.lst (xs.set m d)))
        | none => .bad)
      | none => .bad)
    | _, _, _ => .bad := (rfl)
@[simp] theorem evS_app {a e : DE} : evS call wf (.app a e) ρ S = (evE call a ρ S).st ρ fun x S1 => match x with
    | .c j => (evE call e ρ S1).st ρ fun v S2 => (match v with
      | .p d => (match S2[j]? with
        | some (.lst xs) => if xs.length < sizeLine then .nx ρ (S2.set j (.lst (xs ++ [d]))) else .bad
        | none => .bad)
      | .c _ => .bad)
    | .p _ => .bad := (rfl)
@[simp] theorem evS_expr {e : DE} : evS call wf (.expr e) ρ S = (evE call e ρ S).st ρ fun _ S1 => .nx ρ S1 := (rfl)
@[simp] theorem evS_ret {e : DE} : evS call wf (.ret e) ρ S = (evE call e ρ S).st ρ fun v S1 => .ret v S1 := (rfl)
@[simp] theorem evS_retF {e : DE} : evS call wf (.retF e) ρ S = (evE call e ρ S).st ρ fun v S1 => match v with
    | .p d => if frsh e then .ret (.p d) S1 else .bad
    | .c i => .ret (.c i) S1 := (rfl)
@[simp] theorem evS_retN : evS call wf .retN ρ S = .ret (.p .non) S := (rfl)
@[simp] theorem evS_pass : evS call wf .pass ρ S = .nx ρ S := (rfl)
@[simp] theorem evS_brk : evS call wf .brk ρ S = .bk ρ S := (rfl)
@[simp] theorem evS_cont : evS call wf .cont ρ S = .ct ρ S := (rfl)
@[simp] theorem evS_ife {c : DE} {a b : List DS} : evS call wf (.ife c a b) ρ S = (evT call c ρ S).st ρ fun k S1 => if k = true then evB call wf a ρ S1 else evB call wf b ρ S1 := (rfl)
@[simp] theorem evS_never : evS call wf .never ρ S = .bad := (rfl)
theorem evS_for {tg : DT} {k : IK} {args : List DE} {body : List DS} {vs : List Sv} {S1 : Store} {ds : List D} {W : Watch} (ha : evL call args ρ S = .ok vs S1) (hi : itemsOf k vs S1 = some (ds, W)) : evS call wf (.for tg k args body) ρ S = forL tg (evB call wf body) W ds ρ S1 := by
  show ((evL call args ρ S).st ρ fun vs S1 => match itemsOf k vs S1 with
    | some (ds, W) => forL tg (evB call wf body) W ds ρ S1
    | none => .bad) = _
  rw [ha]
  simp only [R.st_ok, hi]
theorem evS_while {c : DE} {body : List DS} : evS call wf (.while c body) ρ S = whileL (evT call c) (evB call wf body) wf ρ S := (rfl)
@[simp] theorem bindT_name {i : Nat} {v : Sv} : bindT (.name i) v ρ = some (ρ.set i (some v)) := (rfl)
@[simp] theorem bindT_tup {ts : List DT} {ds : List D} : bindT (.tup ts) (.p (.tup ds)) ρ = bindTs ts ds ρ := (rfl)
@[simp] theorem bindTs_nil : bindTs [] [] ρ = some ρ := (rfl)
@[simp] theorem bindTs_cons {t : DT} {ts : List DT} {d : D} {ds : List D} : bindTs (t :: ts) (d :: ds) ρ = (match bindT t (.p d) ρ with
    | some ρ' => bindTs ts ds ρ'
    | none => none) := (rfl)
@[simp] theorem wipeρ_nil : wipeρ ρ [] = ρ := (rfl)
@[simp] theorem wipeρ_cons {v : Nat} {vs : List Nat} : wipeρ ρ (v :: vs) = (wipeρ ρ vs).set v none := (rfl)
@[simp] theorem binD_add {i j : Int} : binD .Add (.int i) (.int j) = some (.int (i + j)) := (rfl)
@[simp] theorem binD_sub {i j : Int} : binD .Sub (.int i) (.int j) = some (.int (i - j)) := (rfl)
theorem binD_mul {i j : Int} (h : mulOK i j) : binD .Mult (.int i) (.int j) = some (.int (i * j)) := if_pos h
theorem binD_div {i j : Int} (h : divOK j) : binD .FloorDiv (.int i) (.int j) = some (.int (i.fdiv j)) := if_pos h
theorem binD_mod {i j : Int} (h : j ≠ 0) : binD .Mod (.int i) (.int j) = some (.int (i.fmod j)) := if_pos h
theorem binD_cat {xs ys : List D} (h : xs.length + ys.length ≤ sizeLine) : binD .Add (.tup xs) (.tup ys) = some (.tup (xs ++ ys)) := if_pos h
theorem binD_catL {xs ys : List D} (h : xs.length + ys.length ≤ sizeLine) : binD .Add (.lst xs) (.lst ys) = some (.lst (xs ++ ys)) := if_pos h
@[simp] theorem cmpD_eq {d e : D} : cmpD .Eq d e = eqD d e := (rfl)
@[simp] theorem cmpD_ne {d e : D} : cmpD .NotEq d e = (eqD d e).map (!·) := (rfl)
@[simp] theorem cmpD_lt {i j : Int} : cmpD .Lt (.int i) (.int j) = some (decide (i < j)) := (rfl)
@[simp] theorem cmpD_le {i j : Int} : cmpD .LtE (.int i) (.int j) = some (decide (i ≤ j)) := (rfl)
@[simp] theorem cmpD_gt {i j : Int} : cmpD .Gt (.int i) (.int j) = some (decide (j < i)) := (rfl)
@[simp] theorem cmpD_ge {i j : Int} : cmpD .GtE (.int i) (.int j) = some (decide (j ≤ i)) := (rfl)
@[simp] theorem cmpD_isN {d : D} : cmpD .Is d .non = some (decide (d = .non)) := by cases d <;> rfl
@[simp] theorem cmpD_isNotN {d : D} : cmpD .IsNot d .non = some (!decide (d = .non)) := by cases d <;> rfl
@[simp] theorem truD_bl {b : Bool} : truD (.bl b) = some b := (rfl)
@[simp] theorem ixD_tup {xs : List D} {i : Int} : ixD (.tup xs) (.int i) = L2.atI xs i := (rfl)
@[simp] theorem ixD_lst {xs : List D} {i : Int} : ixD (.lst xs) (.int i) = L2.atI xs i := (rfl)
end
theorem atI_nat {α : Type} {xs : List α} {i : Nat} (h : i < xs.length) : L2.atI xs (i : Int) = some xs[i] := by
  unfold L2.atI L2.ixN
  rw [if_pos (by omega), if_pos (by omega)]
  simp [h]
theorem atI_last {α : Type} {xs : List α} {x : α} : L2.atI (xs ++ [x]) (-1) = some x := by
  unfold L2.atI L2.ixN
  rw [if_neg (by omega), if_pos (by simp; omega)]
  have e : (-1 + ((xs ++ [x]).length : Int)).toNat = xs.length := by simp; omega
  simp only [Option.bind_some, e]
  simp
theorem mulS {i j : Int} (h : smallI i) : mulOK i j := .inl h
theorem mulS' {i j : Int} (h : smallI j) : mulOK i j := .inr (.inl h)
end DV

set_option Elab.async false
set_option linter.all false
set_option maxRecDepth 100000
set_option maxHeartbeats 4000000
/-! DV17: lists of ints. -/
namespace DV
open PySem
def ng (ps : List Int) (i : Nat) : Int := (ps[i]?).getD 0
theorem ng_eq {ps : List Int} {i : Nat} (h : i < ps.length) : ng ps i = ps[i] := by simp [ng, h]
theorem ng_mem {ps : List Int} {i : Nat} (h : i < ps.length) : ng ps i ∈ ps := by rw [ng_eq h]; exact List.getElem_mem h
theorem at_ng {ps : List Int} {i : Nat} (h : i < ps.length) : L2.atI (ps.map D.int) (i : Int) = some (.int (ng ps i)) := by
  rw [atI_nat (by simpa using h), ng_eq h]
  simp
theorem at_ng1 {ps : List Int} {i : Nat} (h : i + 1 < ps.length) : L2.atI (ps.map D.int) ((i : Int) + 1) = some (.int (ng ps (i + 1))) := at_ng (i := i + 1) h
theorem at_ngI {ps : List Int} {i : Int} (h0 : 0 ≤ i) (h : i < ps.length) : L2.atI (ps.map D.int) i = some (.int (ng ps i.toNat)) := by
  obtain ⟨n, rfl⟩ := Int.eq_ofNat_of_zero_le h0
  exact at_ng (by omega)
theorem intsOf_map {α : Type} (f : α → Int) : ∀ xs : List α, intsOf (xs.map fun x => D.int (f x)) = some (xs.map f)
  | [] => rfl
  | x :: xs => by
    have := intsOf_map f xs
    simp only [List.map_cons, intsOf, this, Option.map_some]
theorem intsOf_ints (xs : List Int) : intsOf (xs.map D.int) = some xs := by
  have := intsOf_map id xs
  simpa using this
theorem blsOf_map {α : Type} (f : α → Bool) : ∀ xs : List α, blsOf (xs.map fun x => D.bl (f x)) = some (xs.map f)
  | [] => rfl
  | x :: xs => by
    have := blsOf_map f xs
    simp only [List.map_cons, blsOf, this, Option.map_some]
theorem toPys_ints : ∀ xs : List Int, toPys (xs.map D.int) = some (xs.map .int)
  | [] => rfl
  | x :: xs => by
    simp only [List.map_cons, toPys, toPy, toPys_ints xs]
    rfl
theorem shaped_ints (xs : List Int) : PyData.canLayAll0 (xs.map .int) = true ∧ PyData.depthAll (xs.map .int) = 0 := by
  induction xs with
  | nil => exact ⟨rfl, rfl⟩
  | cons x xs ih => simp [PyData.canLayAll0, PyData.depthAll, PyData.canLay0, PyData.depth, ih]
theorem eqvAll_ints : ∀ xs ys : List Int, PyData.eqvAll (xs.map .int) (ys.map .int) = decide (xs = ys)
  | [], [] => rfl
  | [], _ :: _ => by simp [PyData.eqvAll]
  | _ :: _, [] => by simp [PyData.eqvAll]
  | x :: xs, y :: ys => by
    simp only [List.map_cons, PyData.eqvAll, PyData.eqv, eqvAll_ints xs ys]
    rw [Bool.eq_iff_iff]; simp
theorem eqD_ints (xs ys : List Int) : eqD (.lst (xs.map .int)) (.lst (ys.map .int)) = some (decide (xs = ys)) := by
  obtain ⟨h1, h2⟩ := shaped_ints xs
  obtain ⟨h3, h4⟩ := shaped_ints ys
  simp [eqD, toPy, toPys_ints, SeqAt.shaped, PyData.canLay0, PyData.depth, h1, h2, h3, h4, PyData.eqv, eqvAll_ints]
theorem eqD_ints0 (xs : List Int) : eqD (.lst (xs.map .int)) (.lst []) = some (decide (xs = [])) := eqD_ints xs []
theorem isIn_ints (x : Int) (xs : List Int) : isIn (.int x) (.lst (xs.map .int)) = some (decide (x ∈ xs)) := by
  obtain ⟨h1, h2⟩ := shaped_ints xs
  simp only [isIn, toPy, toPys_ints]
  rw [if_pos (by simp [SeqAt.shaped, PyData.canLay0, PyData.depth, h1, h2])]
  congr 1
  rw [Bool.eq_iff_iff]
  simp [PyData.eqv]
theorem maxI_some {xs : List Int} (h : xs ≠ []) : ∃ m, maxI xs = some m ∧ m ∈ xs ∧ ∀ y ∈ xs, y ≤ m := by
  cases xs with
  | nil => exact absurd rfl h
  | cons x xs =>
    have := maxI_is (ns := x :: xs) rfl
    exact ⟨_, rfl, this.2⟩
theorem minI_some {xs : List Int} (h : xs ≠ []) : ∃ m, minI xs = some m ∧ m ∈ xs ∧ ∀ y ∈ xs, m ≤ y := by
  cases xs with
  | nil => exact absurd rfl h
  | cons x xs =>
    have := minI_is (ns := x :: xs) rfl
    exact ⟨_, rfl, this.2⟩
theorem maxI_eq {xs : List Int} {m : Int} (h : m ∈ xs) (h2 : ∀ y ∈ xs, y ≤ m) : maxI xs = some m := by
  obtain ⟨n, e, h3, h4⟩ := maxI_some (xs := xs) (fun z => by rw [z] at h; cases h)
  rw [e]
  congr 1
  have := h2 n h3
  have := h4 m h
  omega
theorem minI_eq {xs : List Int} {m : Int} (h : m ∈ xs) (h2 : ∀ y ∈ xs, m ≤ y) : minI xs = some m := by
  obtain ⟨n, e, h3, h4⟩ := minI_some (xs := xs) (fun z => by rw [z] at h; cases h)
  rw [e]
  congr 1
  have := h2 n h3
  have := h4 m h
  omega
theorem rngD_map {n : Nat} : rngD 0 n = (List.range n).map fun j => D.int (j : Nat) := by
  unfold rngD
  simp
theorem rngOK_nat {n : Nat} (h : n < 2 ^ 61) : rngOK (n : Int) := by
  have e : (2 : Int) ^ 62 = 4611686018427387904 := by decide
  have e2 : (2 : Nat) ^ 61 = 2305843009213693952 := by decide
  rw [e2] at h
  constructor <;> rw [e] <;> omega
theorem rngOK_of {i : Int} (h0 : -2305843009213693952 ≤ i) (h : i ≤ 2305843009213693952) : rngOK i := by
  have e : (2 : Int) ^ 62 = 4611686018427387904 := by decide
  constructor <;> rw [e] <;> omega
theorem small_of {i : Int} (h0 : -9223372036854775808 ≤ i) (h : i ≤ 9223372036854775808) : smallI i := by
  have e : (2 : Int) ^ 64 = 18446744073709551616 := by decide
  constructor <;> rw [e] <;> omega
theorem size1000 {n : Nat} (h : n ≤ 100000) : n ≤ sizeLine := Nat.le_trans h (by decide)
/-- range(n), walked -/
theorem items_rng {S : Store} {n : Nat} (h : n ≤ 100000) : itemsOf .rng [.p (.int (n : Int))] S = some ((List.range n).map fun j => D.int (j : Nat), []) := by
  have : rngOK (n : Int) := rngOK_nat (by omega)
  simp only [itemsOf, if_pos this]
  rw [← rngD_map]
  rfl
theorem items_rngI {S : Store} {i : Int} {n : Nat} (e : i = (n : Int)) (h : n ≤ 100000) : itemsOf .rng [.p (.int i)] S = some ((List.range n).map fun j => D.int (j : Nat), []) := by subst e; exact items_rng h
/-- what a draw does to the store -/
def VU (S S' : Store) : Prop := Has S → Up S S'
theorem VU.refl (S : Store) : VU S S := fun h => Up.refl h
theorem VU.trans {S S' S'' : Store} (a : VU S S') (b : VU S' S'') : VU S S'' := fun h => (a h).trans (b ((a h).has h))
/-- a comprehension whose turns change the store -/
theorem lc_run {call : CallF} {elt : DE} {tg : DT} {k : IK} {args ifs : List DE} {own : List Nat} {ρ : Loc} {S S1 : Store} {vs : List Sv} {ds : List D} {P : D → Prop} (ha : evL call args ρ S = .ok vs S1) (hi : itemsOf k vs S1 = some (ds, []))
    (h : ∀ d ∈ ds, ∀ S', VU S1 S' → ∃ y S'', lcTurn call elt tg ifs own ρ d S' = .ok (some y) S'' ∧ VU S' S'' ∧ P y) (hl : ds.length ≤ sizeLine) :
    ∃ ys S', evE call (.lc elt tg k args ifs own) ρ S = .ok (.p (.lst ys)) S' ∧ VU S1 S' ∧ ys.length = ds.length ∧ ∀ y ∈ ys, P y := by
  obtain ⟨ys, S', e, v, l, p⟩ := lcL_run (turn := lcTurn call elt tg ifs own ρ) (P := fun _ y => P y) (V := VU) VU.refl (fun _ _ _ => VU.trans) (S0 := S1) (ds := ds) (S := S1) (VU.refl _) h
  refine ⟨ys, S', ?_, v, l, fun y hy => ?_⟩
  · rw [evE_lc]
    unfold evI
    rw [ha]
    simp only [R.bind_ok, hi, R.of_some]
    rw [e]
    simp only [R.bind_ok]
    rw [if_pos (by rw [l]; exact hl)]
  · obtain ⟨i, hi⟩ := List.mem_iff_getElem?.mp hy
    have hil := (List.getElem?_eq_some_iff.mp hi).1
    have : (ds[i], y) ∈ ds.zip ys := by
      rw [List.mem_iff_getElem?]
      refine ⟨i, ?_⟩
      rw [List.getElem?_zip_eq_some]
      exact ⟨List.getElem?_eq_getElem (by omega), hi⟩
    exact p _ this
/-- all of them ints -/
theorem all_ints {ys : List D} {Q : Int → Prop} (h : ∀ y ∈ ys, ∃ i, y = .int i ∧ Q i) : ∃ ns : List Int, ys = ns.map .int ∧ ∀ n ∈ ns, Q n := by
  induction ys with
  | nil => exact ⟨[], rfl, fun n h => by cases h⟩
  | cons y ys ih =>
    obtain ⟨ns, rfl, h2⟩ := ih fun z hz => h z (List.mem_cons_of_mem _ hz)
    obtain ⟨i, rfl, hi⟩ := h y List.mem_cons_self
    exact ⟨i :: ns, rfl, fun n hn => (List.mem_cons.mp hn).elim (fun e => e ▸ hi) (h2 n)⟩
/-- a search: the loop hands back at the first turn with p -/
theorem forL_search {tg : DT} {body : Loc → Store → SR} {W : Watch} {S : Store} {v : Sv} (hw : watched W S = true) (I : Loc → Prop) (p : D → Bool) : ∀ (ds : List D) (ρ : Loc), I ρ →
    (∀ d ∈ ds, ∀ ρ, I ρ → ∃ ρ1, bindT tg (.p d) ρ = some ρ1 ∧ (p d = true → body ρ1 S = .ret v S) ∧ (p d = false → ∃ ρ2, body ρ1 S = .nx ρ2 S ∧ I ρ2)) →
    (ds.any p = true → forL tg body W ds ρ S = .ret v S) ∧ (ds.any p = false → ∃ ρ', forL tg body W ds ρ S = .nx ρ' S ∧ I ρ')
  | [], ρ, h0, _ => ⟨fun h => by simp at h, fun _ => ⟨ρ, by unfold forL; rw [if_pos hw], h0⟩⟩
  | d :: ds, ρ, h0, h => by
    obtain ⟨ρ1, e1, h1, h2⟩ := h d List.mem_cons_self ρ h0
    cases hp : p d with
    | true =>
      refine ⟨fun _ => ?_, fun z => by simp [hp] at z⟩
      unfold forL
      rw [if_pos hw]
      have e1' : bindT tg (.p d) ρ = some ρ1 := e1
      rw [e1']
      simp only [h1 hp, SR.turn_ret]
    | false =>
      obtain ⟨ρ2, e2, h3⟩ := h2 hp
      have ih := forL_search (v := v) hw I p ds ρ2 h3 fun d hd => h d (List.mem_cons_of_mem _ hd)
      have st : forL tg body W (d :: ds) ρ S = forL tg body W ds ρ2 S := by
        rw [forL, if_pos hw]
        have e1' : bindT tg (.p d) ρ = some ρ1 := e1
        rw [e1']
        simp only [e2, SR.turn_nx]
      rw [st]
      refine ⟨fun z => ih.1 (by simpa [hp] using z), fun z => ih.2 (by simpa [hp] using z)⟩
theorem eqD_nats0 (xs : List Nat) : eqD (.lst (xs.map fun j : Nat => D.int (j : Nat))) (.lst []) = some (decide (xs = [])) := by
  have := eqD_ints0 (xs.map fun j : Nat => (j : Int))
  rw [List.map_map] at this
  refine Eq.trans this ?_
  cases xs <;> simp
theorem fm_filter {α : Type} (p : α → Bool) (f : α → D) (g : D → Option D) (xs : List α) (h : ∀ x ∈ xs, g (f x) = if p x then some (f x) else none) : (xs.map f).filterMap g = (xs.filter p).map f := by
  induction xs with
  | nil => rfl
  | cons x xs ih =>
    have ih := ih fun y hy => h y (List.mem_cons_of_mem _ hy)
    have hx := h x List.mem_cons_self
    simp only [List.map_cons, List.filterMap_cons, hx, List.filter_cons]
    cases p x <;> simp [ih]
theorem search_of {tg : DT} {body : Loc → Store → SR} {W : Watch} {S : Store} {ds : List D} {ρ : Loc} {r : SR} (v : Sv) (hr : forL tg body W ds ρ S = r) (hw : watched W S = true) (I : Loc → Prop) (p : D → Bool) (h0 : I ρ)
    (h : ∀ d ∈ ds, ∀ ρ, I ρ → ∃ ρ1, bindT tg (.p d) ρ = some ρ1 ∧ (p d = true → body ρ1 S = .ret v S) ∧ (p d = false → ∃ ρ2, body ρ1 S = .nx ρ2 S ∧ I ρ2)) :
    (ds.any p = true ∧ r = .ret v S) ∨ (ds.any p = false ∧ ∃ ρ', r = .nx ρ' S ∧ I ρ') := by
  have := forL_search (v := v) hw I p ds ρ h0 h
  cases hp : ds.any p with
  | true => exact .inl ⟨rfl, by rw [← hr, this.1 hp]⟩
  | false =>
    obtain ⟨ρ', e, hI⟩ := this.2 hp
    exact .inr ⟨rfl, ρ', by rw [← hr, e], hI⟩
theorem all_of {tg : DT} {body : Loc → Store → SR} {W : Watch} {S : Store} {ds : List D} {ρ : Loc} {r : SR} (hr : forL tg body W ds ρ S = r) (I : Nat → Loc → Store → Prop) (h0 : I 0 ρ S) (hw : ∀ j ρ S, I j ρ S → watched W S = true)
    (h : ∀ j (hj : j < ds.length) ρ S, I j ρ S → ∃ ρ1 ρ2 S2, bindT tg (.p ds[j]) ρ = some ρ1 ∧ (body ρ1 S = .nx ρ2 S2 ∨ body ρ1 S = .ct ρ2 S2) ∧ I (j + 1) ρ2 S2) : ∃ ρ' S', r = .nx ρ' S' ∧ I ds.length ρ' S' := by
  obtain ⟨ρ', S', e, hI⟩ := forL_all I ds 0 ρ S h0 hw (fun j hj ρ S hI => by
    rw [Nat.zero_add] at hI ⊢
    exact h j hj ρ S hI)
  rw [Nat.zero_add] at hI
  exact ⟨ρ', S', by rw [← hr, e], hI⟩
theorem like_ok {T : Tab} {wf : Nat} (h : T.lookup ("_law_sort" : Str) = some df_sort) (h' : T.lookup ("_law_like" : Str) = some df_like) {S : Store} {n k : Nat} (hk : n + 2 ≤ k) {x y : D} (hx : okD n x = true) (hy : okD n y = true) :
    callF T wf k "_law_like" [.p x, .p y] S = .ok (.p (.bl (decide (x = y)))) S := by
  obtain ⟨j, rfl⟩ : ∃ j, k = n + j + 2 := ⟨k - n - 2, by omega⟩
  exact s_like h h' S n j x y hx hy
theorem like_same {T : Tab} {wf : Nat} (h : T.lookup ("_law_sort" : Str) = some df_sort) (h' : T.lookup ("_law_like" : Str) = some df_like) {S : Store} {n k : Nat} (hk : n + 2 ≤ k) {x : D} (hx : okD n x = true) :
    callF T wf k "_law_like" [.p x, .p x] S = .ok (.p (.bl true)) S := by
  rw [like_ok h h' hk hx hx]
  simp
theorem okD_ints {n : Nat} (ns : List Int) : (ns.map D.int).all (okD n) = true := by
  rw [List.all_map, List.all_eq_true]
  intro x _
  cases n <;> rfl
theorem isIn_nats (x : Int) (xs : List Nat) : isIn (.int x) (.lst (xs.map fun j : Nat => D.int (j : Nat))) = some (decide (∃ j ∈ xs, (j : Int) = x)) := by
  have := isIn_ints x (xs.map fun j : Nat => (j : Int))
  rw [List.map_map] at this
  refine Eq.trans this ?_
  congr 1
  rw [Bool.eq_iff_iff]
  simp
theorem seqE {call : CallF} {wf : Nat} {s : DS} {ss : List DS} {ρ ρ' : Loc} {S S' : Store} (h : evS call wf s ρ S = .nx ρ' S') : evB call wf (s :: ss) ρ S = evB call wf ss ρ' S' := by
  rw [evB_cons, h, SR.seq_nx]
theorem seqR {call : CallF} {wf : Nat} {s : DS} {ss : List DS} {ρ : Loc} {v : Sv} {S S' : Store} (h : evS call wf s ρ S = .ret v S') : evB call wf (s :: ss) ρ S = .ret v S' := by
  rw [evB_cons, h, SR.seq_ret]
/-- a def whose body hands back a value -/
theorem run_ret {T : Tab} {wf k : Nat} {x : Str} {d : Df} {vs : List Sv} {S S' : Store} {v : D} (h : T.lookup x = some d) (hl : vs.length = d.ps) (hb : evB (callF T wf k) wf d.body (vs.map some ++ List.replicate (d.ns - d.ps) none) S = .ret (.p v) S') :
    callF T wf (k + 1) x vs S = .ok (.p v) (S'.take S.length) := by
  rw [callF_succ h hl, hb]
  rfl
end DV

set_option Elab.async false
set_option linter.all false
set_option maxRecDepth 100000
set_option maxHeartbeats 4000000
namespace Lk58
open PySem PySem.Spec PyProof.Rows DV
def topS (i : Nat) : Stmt := PySem.Challenge.pw_plotsagreed_k58_whole_towers.main.body.getD i (.Pass ⟨0, 0, 0, 0⟩)
def bis : List Str := ["len", "abs", "max", "min", "all", "int", "tuple", "list", "range", "zip", "enumerate", "isinstance", "bool", "str"]
def gcs : List Str := ["gcd"]
def cs : List (Str × D) := [("HEIGHT", (.int 1000000)), ("PLACES", (.int 60)), ("GREAT", (.int 1000000000000000000000000000000000000000000000000000000000000))]
def d_is_whole : Dn := ⟨topS 7, ["value", "low", "high"], ["value", "low", "high"], [], false, [
  .ret (.and (.isi (.var 0) .int) (.and (.not (.isi (.var 0) .bool)) (.chain .LtE .LtE (.var 1) (.var 0) (.var 2))))]⟩
def d_is_tuple_of : Dn := ⟨topS 8, ["value", "low", "high"], ["value", "low", "high"], [], false, [
  .ret (.and (.isi (.var 0) .tuple) (.chain .LtE .LtE (.var 1) (.bi .len [(.var 0)]) (.var 2)))]⟩
def d_is_profile_in : Dn := ⟨topS 12, ["value", ".0", "height"], ["value"], [], false, [
  .ret (.and (.call "is_tuple_of" false [(.var 0), (.con (.int 2)), (.con (.int 60))]) (.bi .all [(.lc (.call "is_whole" false [(.var 2), (.neg (.con (.int 1000000))), (.con (.int 1000000))]) (.name 2) .seq [(.var 0)] [] [1, 2])]))]⟩
def d_need_profile : Dn := ⟨topS 13, ["value"], ["value"], [], false, [
  .ife (.not (.call "is_profile_in" false [(.var 0)])) [.never] []]⟩
def d_need_at : Dn := ⟨topS 14, ["profile", "i"], ["profile", "i"], [], false, [
  .expr (.call "need_profile" false [(.var 0)]),
  .ife (.not (.call "is_whole" false [(.var 1), (.con (.int 0)), (.bin .Sub (.bi .len [(.var 0)]) (.con (.int 1)))])) [.never] []]⟩
def d_is_measure : Dn := ⟨topS 17, ["value"], ["value"], [], false, [
  .ife (.or (.not (.call "is_tuple_of" false [(.var 0), (.con (.int 2)), (.con (.int 2))])) (.or (.not (.call "is_whole" false [(.ix (.var 0) (.con (.int 0))), (.neg (.con (.int 1000000000000000000000000000000000000000000000000000000000000))), (.con (.int 1000000000000000000000000000000000000000000000000000000000000))])) (.not (.call "is_whole" false [(.ix (.var 0) (.con (.int 1))), (.con (.int 1)), (.con (.int 1000000000000000000000000000000000000000000000000000000000000))])))) [.ret (.con (.bl false))] [],
  .ret (.cmp .Eq (.bi .gcd [(.ix (.var 0) (.con (.int 0))), (.ix (.var 0) (.con (.int 1)))]) (.con (.int 1)))]⟩
def d_gap_of : Dn := ⟨topS 18, ["one", "other"], ["one", "other"], [], false, [
  .ret (.bin .Sub (.bin .Mult (.ix (.var 0) (.con (.int 0))) (.ix (.var 1) (.con (.int 1)))) (.bin .Mult (.ix (.var 1) (.con (.int 0))) (.ix (.var 0) (.con (.int 1)))))]⟩
def d_line_at : Dn := ⟨topS 20, ["profile", "piece", "i"], ["profile", "piece", "i"], [], false, [
  .ret (.bin .Add (.ix (.var 0) (.var 1)) (.bin .Mult (.bin .Sub (.ix (.var 0) (.bin .Add (.var 1) (.con (.int 1)))) (.ix (.var 0) (.var 1))) (.bin .Sub (.var 2) (.var 1))))]⟩
def d_need_tower : Dn := ⟨topS 21, ["profile", "i", "height"], ["profile", "i", "height"], [], false, [
  .expr (.call "need_at" false [(.var 0), (.var 1)]),
  .ife (.or (.not (.call "is_measure" false [(.var 2)])) (.cmp .Lt (.ix (.var 2) (.con (.int 0))) (.con (.int 0)))) [.never] []]⟩
def d_least_in : Dn := ⟨topS 22, ["profile", "i", ".0", "piece"], ["profile", "i"], [], false, [
  .ret (.bin .Sub (.bi .max [(.lc (.call "line_at" false [(.var 0), (.var 3), (.var 1)]) (.name 3) .rng [(.bin .Sub (.bi .len [(.var 0)]) (.con (.int 1)))] [] [2, 3])]) (.ix (.var 0) (.var 1)))]⟩
def d_is_below : Dn := ⟨topS 23, ["profile", "i", "height", "piece"], ["profile", "i", "height", "piece"], [], false, [
  .ret (.cmp .Gt (.call "gap_of" false [(.tup [(.bin .Sub (.call "line_at" false [(.var 0), (.var 3), (.var 1)]) (.ix (.var 0) (.var 1))), (.con (.int 1))]), (.var 2)]) (.con (.int 0)))]⟩
def d_tower_height : Dn := ⟨topS 24, ["profile", "i"], ["profile", "i"], [], false, [
  .expr (.call "need_at" false [(.var 0), (.var 1)]),
  .ret (.tup [(.call "least_in" false [(.var 0), (.var 1)]), (.con (.int 1))])]⟩
def d_sees_all : Dn := ⟨topS 25, ["profile", "i", "height"], ["profile", "i", "height"], [], false, [
  .expr (.call "need_tower" false [(.var 0), (.var 1), (.var 2)]),
  .ret (.cmp .LtE (.call "gap_of" false [(.tup [(.call "least_in" false [(.var 0), (.var 1)]), (.con (.int 1))]), (.var 2)]) (.con (.int 0)))]⟩
def d_hidden_piece : Dn := ⟨topS 26, ["profile", "i", "height", "some", ".0", "piece"], ["profile", "i", "height"], [], false, [
  .expr (.call "need_tower" false [(.var 0), (.var 1), (.var 2)]),
  .asg (.name 3) (.lc (.var 5) (.name 5) .rng [(.bin .Sub (.bi .len [(.var 0)]) (.con (.int 1)))] [(.call "is_below" false [(.var 0), (.var 1), (.var 2), (.var 5)])] [4, 5]),
  .ret (.ife (.cmp .NotEq (.var 3) (.lst [])) (.ix (.var 3) (.con (.int 0))) (.con .non))]⟩
def d_is_hidden_piece : Dn := ⟨topS 27, ["profile", "i", "height", "value"], ["profile", "i", "height", "value"], [], false, [
  .expr (.call "need_tower" false [(.var 0), (.var 1), (.var 2)]),
  .ret (.and (.call "is_whole" false [(.var 3), (.con (.int 0)), (.bin .Sub (.bi .len [(.var 0)]) (.con (.int 2)))]) (.call "is_below" false [(.var 0), (.var 1), (.var 2), (.var 3)]))]⟩
def d_least_tower : Dn := ⟨topS 28, ["profile", "rows", "least", ".0", "i", "height"], ["profile"], [], false, [
  .expr (.call "need_profile" false [(.var 0)]),
  .asg (.name 1) (.lc (.call "least_in" false [(.var 0), (.var 4)]) (.name 4) .rng [(.bi .len [(.var 0)])] [] [3, 4]),
  .asg (.name 2) (.bi .min [(.var 1)]),
  .ret (.tup [(.tup [(.var 2), (.con (.int 1))]), (.bi .tuple [(.lc (.var 4) (.tup [(.name 4), (.name 5)]) .enum [(.var 1)] [(.cmp .Eq (.var 5) (.var 2))] [3, 4, 5])])])]⟩
def d__law_cup : Dn := ⟨topS 30, ["script", "cell"], ["script"], [], true, [
  .asg (.name 1) (.bi .abs [(.ix (.bin .Add (.bi .list [(.var 0)]) (.lst [(.con (.int 0))])) (.con (.int 0)))]),
  .retF (.lst [(.ife (.cmp .GtE (.var 1) (.bin .Pow (.con (.int 10)) (.con (.int 18)))) (.bin .FloorDiv (.var 1) (.con (.int 109))) (.con (.int 0))), (.bin .Add (.bin .Mod (.bi .int [(.bin .Add (.bin .Mult (.var 1) (.con (.int 359))) (.con (.int 5209)))]) (.con (.int 1994129363))) (.con (.int 223)))])]⟩
def d__law_roll : Dn := ⟨topS 31, ["cup", "many", "found", "deep"], ["cup", "many"], ["cup"], false, [
  .ife (.cmp .Gt (.ix (.var 0) (.con (.int 0))) (.con (.int 0))) [.asg (.name 2) (.bin .Mod (.bi .int [(.ix (.var 0) (.con (.int 0)))]) (.var 1)), .setix (.var 0) (.con (.int 0)) (.bin .FloorDiv (.ix (.var 0) (.con (.int 0))) (.var 1)), .ret (.var 2)] [],
  .setix (.var 0) (.con (.int 1)) (.bin .Mod (.bi .int [(.bin .Add (.bin .Mult (.ix (.var 0) (.con (.int 1))) (.con (.int 30103))) (.con (.int 8923)))]) (.con (.int 2147483543))),
  .asg (.name 3) (.bin .Mod (.bi .int [(.bin .Mult (.ix (.var 0) (.con (.int 1))) (.bin .Add (.ix (.var 0) (.con (.int 1))) (.con (.int 283))))]) (.con (.int 2147483587))),
  .ret (.bin .Mod (.bi .int [(.bin .FloorDiv (.var 3) (.con (.int 881)))]) (.var 1))]⟩
def d__law_some : Dn := ⟨topS 32, ["cup", "things"], ["cup", "things"], ["cup"], false, [
  .ret (.ix (.var 1) (.call "_law_roll" false [(.var 0), (.bi .len [(.var 1)])]))]⟩
def d__law_sort : Dn := ⟨topS 33, ["value"], ["value"], [], false, [
  .ife (.or (.cmp .Is (.var 0) (.con .non)) (.isi (.var 0) .bool)) [.ret (.ife (.cmp .Is (.var 0) (.con .non)) (.con (.int 0)) (.con (.int 1)))] [],
  .ife (.or (.isi (.var 0) .int) (.isi (.var 0) .str)) [.ret (.ife (.isi (.var 0) .int) (.con (.int 2)) (.con (.int 3)))] [],
  .ret (.ife (.isi (.var 0) .tuple) (.con (.int 4)) (.ife (.isi (.var 0) .list) (.con (.int 5)) (.con (.int 6))))]⟩
def d__law_like : Dn := ⟨topS 34, ["one", "other", "sort", ".0", "first", "second"], ["one", "other"], [], false, [
  .asg (.name 2) (.call "_law_sort" false [(.var 1)]),
  .ife (.or (.cmp .NotEq (.call "_law_sort" false [(.var 0)]) (.var 2)) (.cmp .Eq (.var 2) (.con (.int 6)))) [.ret (.con (.bl false))] [],
  .ife (.cmp .In (.var 2) (.tup [(.con (.int 4)), (.con (.int 5))])) [.ret (.and (.cmp .Eq (.bi .len [(.var 0)]) (.bi .len [(.var 1)])) (.cmp .Eq (.lc (.con (.int 1)) (.tup [(.name 4), (.name 5)]) .zip [(.var 0), (.var 1)] [(.not (.call "_law_like" false [(.var 4), (.var 5)]))] [3, 4, 5]) (.lst [])))] [],
  .ret (.cmp .Eq (.var 0) (.var 1))]⟩
def d__law_profile : Dn := ⟨topS 35, ["cup", "most", "top", ".0", "place"], ["cup", "most", "top"], ["cup"], false, [
  .ret (.bi .tuple [(.lc (.bin .Sub (.call "_law_roll" false [(.var 0), (.bin .Add (.bin .Mult (.con (.int 2)) (.var 2)) (.con (.int 1)))]) (.var 2)) (.name 4) .rng [(.bin .Add (.con (.int 2)) (.call "_law_roll" false [(.var 0), (.bin .Sub (.var 1) (.con (.int 1)))]))] [] [3, 4])])]⟩
def d__law_gcd : Dn := ⟨topS 36, ["one", "other", "turn"], ["one", "other"], [], false, [
  .for (.name 2) .rng [(.con (.int 400))] [.ife (.cmp .Eq (.var 1) (.con (.int 0))) [.ret (.var 0)] [], .par [0, 1] [(.var 1), (.bin .Mod (.bi .int [(.var 0)]) (.var 1))]],
  .ret (.var 0)]⟩
def d__law_measure : Dn := ⟨topS 37, ["top", "bottom", "shared"], ["top", "bottom"], [], false, [
  .asg (.name 2) (.call "_law_gcd" false [(.var 0), (.var 1)]),
  .ret (.tup [(.bin .FloorDiv (.var 0) (.var 2)), (.bin .FloorDiv (.var 1) (.var 2))])]⟩
def d__law_goes_below : Dn := ⟨topS 38, ["profile", "i", "top", "bottom", "k", "part", "parts", "at", "height", "low", "high", "place", "spot", "line"], ["profile", "i", "top", "bottom", "k", "part", "parts"], [], false, [
  .par [7, 8] [(.bin .Add (.bin .Mult (.var 4) (.var 6)) (.var 5)), (.bin .Add (.bin .Mult (.ix (.var 0) (.var 4)) (.bin .Sub (.var 6) (.var 5))) (.bin .Mult (.ix (.var 0) (.bin .Add (.var 4) (.con (.int 1)))) (.var 5)))],
  .par [9, 10] [(.bi .min [(.bin .Mult (.var 1) (.var 6)), (.var 7)]), (.bi .max [(.bin .Mult (.var 1) (.var 6)), (.var 7)])],
  .for (.name 11) .rng [(.bi .len [(.var 0)])] [.asg (.name 12) (.bin .Mult (.var 11) (.var 6)), .ife (.chain .Lt .Lt (.var 9) (.var 12) (.var 10)) [.asg (.name 13) (.bin .Add (.bin .Mult (.bin .Mult (.var 2) (.var 6)) (.bi .abs [(.bin .Sub (.var 12) (.var 7))])) (.bin .Mult (.bin .Mult (.var 8) (.var 3)) (.bi .abs [(.bin .Sub (.var 12) (.bin .Mult (.var 1) (.var 6)))]))), .ife (.cmp .Lt (.var 13) (.bin .Mult (.bin .Mult (.bin .Mult (.ix (.var 0) (.var 11)) (.var 6)) (.var 3)) (.bin .Sub (.var 10) (.var 9)))) [.ret (.con (.bl true))] []] []],
  .ret (.con (.bl false))]⟩
def d__law_sees : Dn := ⟨topS 39, ["profile", "i", "top", "bottom", "k", ".0", "part"], ["profile", "i", "top", "bottom"], [], false, [
  .for (.name 4) .rng [(.bin .Sub (.bi .len [(.var 0)]) (.con (.int 1)))] [.ife (.cmp .NotEq (.lc (.con (.int 1)) (.name 6) .rng [(.con (.int 4))] [(.call "_law_goes_below" false [(.var 0), (.var 1), (.var 2), (.var 3), (.var 4), (.var 6), (.con (.int 3))])] [5, 6]) (.lst [])) [.ret (.con (.bl false))] []],
  .ret (.con (.bl true))]⟩
def d__law_line : Dn := ⟨topS 40, ["profile", "piece", "i"], ["profile", "piece", "i"], [], false, [
  .ret (.bin .Add (.ix (.var 0) (.var 1)) (.bin .Mult (.bin .Sub (.ix (.var 0) (.bin .Add (.var 1) (.con (.int 1)))) (.ix (.var 0) (.var 1))) (.bin .Sub (.var 2) (.var 1))))]⟩
def d__law_right : Dn := ⟨topS 41, ["cup", "profile", "least", "i", "piece", "own", "heights", "height", "is_due", "some", "values", "best", ".0", "k", "value"], ["cup", "profile"], ["least", "cup"], false, [
  .new 2 (.lst []),
  .for (.name 3) .rng [(.bi .len [(.var 1)])] [.asg (.name 5) (.bin .Sub (.bi .max [(.lc (.call "_law_line" false [(.var 1), (.var 4), (.var 3)]) (.name 4) .rng [(.bin .Sub (.bi .len [(.var 1)]) (.con (.int 1)))] [] [12, 4])]) (.ix (.var 1) (.var 3))), .app (.var 2) (.var 5), .ife (.not (.call "_law_like" false [(.call "tower_height" false [(.var 1), (.var 3)]), (.tup [(.var 5), (.con (.int 1))])])) [.ret (.con (.bl false))] [], .asg (.name 6) (.bin .Add (.lst [(.tup [(.var 5), (.con (.int 1))]), (.call "_law_measure" false [(.bin .Add (.bin .Mult (.con (.int 2)) (.var 5)) (.con (.int 1))), (.con (.int 2))]), (.tup [(.con (.int 0)), (.con (.int 1))])]) (.ife (.cmp .Gt (.var 5) (.con (.int 0))) (.lst [(.call "_law_measure" false [(.bin .Sub (.bin .Mult (.con (.int 7)) (.var 5)) (.con (.int 1))), (.con (.int 7))])]) (.lst []))), .for (.name 7) .seq [(.var 6)] [.asg (.name 8) (.cmp .GtE (.ix (.var 7) (.con (.int 0))) (.bin .Mult (.var 5) (.ix (.var 7) (.con (.int 1))))), .asg (.name 4) (.call "hidden_piece" false [(.var 1), (.var 3), (.var 7)]), .ife (.not (.call "_law_like" false [(.lst [(.call "sees_all" false [(.var 1), (.var 3), (.var 7)]), (.cmp .Is (.var 4) (.con .non))]), (.lst [(.var 8), (.var 8)])])) [.ret (.con (.bl false))] [], .asg (.name 9) (.lc (.var 13) (.name 13) .rng [(.bin .Sub (.bi .len [(.var 1)]) (.con (.int 1)))] [(.cmp .Gt (.bin .Mult (.bin .Sub (.call "_law_line" false [(.var 1), (.var 13), (.var 3)]) (.ix (.var 1) (.var 3))) (.ix (.var 7) (.con (.int 1)))) (.ix (.var 7) (.con (.int 0))))] [12, 13]), .ife (.and (.cmp .IsNot (.var 4) (.con .non)) (.not (.and (.cmp .Eq (.call "_law_sort" false [(.var 4)]) (.con (.int 2))) (.cmp .In (.var 4) (.var 9))))) [.ret (.con (.bl false))] [], .asg (.name 10) (.lst [(.var 4), (.con .non), (.con (.bl true)), (.neg (.con (.int 1))), (.bin .Sub (.bi .len [(.var 1)]) (.con (.int 1))), (.call "_law_roll" false [(.var 0), (.bi .len [(.var 1)])])]), .ife (.not (.call "_law_like" false [(.lc (.call "is_hidden_piece" false [(.var 1), (.var 3), (.var 7), (.var 14)]) (.name 14) .seq [(.var 10)] [] [12, 14]), (.lc (.and (.cmp .Eq (.call "_law_sort" false [(.var 14)]) (.con (.int 2))) (.cmp .In (.var 14) (.var 9))) (.name 14) .seq [(.var 10)] [] [12, 14])])) [.ret (.con (.bl false))] []]],
  .asg (.name 11) (.bi .min [(.var 2)]),
  .ret (.call "_law_like" false [(.call "least_tower" false [(.var 1)]), (.tup [(.tup [(.var 11), (.con (.int 1))]), (.bi .tuple [(.lc (.var 3) (.tup [(.name 3), (.name 5)]) .enum [(.var 2)] [(.cmp .Eq (.var 5) (.var 11))] [12, 3, 5])])])])]⟩
def d__law_points_right : Dn := ⟨topS 42, ["cup", "profile", "i", "own", "piece", "far"], ["cup"], ["cup"], false, [
  .asg (.name 1) (.call "_law_profile" false [(.var 0), (.con (.int 7)), (.call "_law_some" false [(.var 0), (.lst [(.con (.int 2)), (.con (.int 6))])])]),
  .asg (.name 2) (.call "_law_roll" false [(.var 0), (.bi .len [(.var 1)])]),
  .asg (.name 3) (.ix (.call "tower_height" false [(.var 1), (.var 2)]) (.con (.int 0))),
  .ife (.not (.call "_law_sees" false [(.var 1), (.var 2), (.bin .Add (.ix (.var 1) (.var 2)) (.var 3)), (.con (.int 1))])) [.ret (.con (.bl false))] [],
  .ife (.cmp .Eq (.var 3) (.con (.int 0))) [.ret (.con (.bl true))] [],
  .asg (.name 4) (.call "hidden_piece" false [(.var 1), (.var 2), (.tup [(.bin .Sub (.var 3) (.con (.int 1))), (.con (.int 1))])]),
  .asg (.name 5) (.ife (.cmp .GtE (.var 4) (.var 2)) (.con (.int 1)) (.con (.int 0))),
  .ret (.call "_law_goes_below" false [(.var 1), (.var 2), (.bin .Sub (.bin .Add (.ix (.var 1) (.var 2)) (.var 3)) (.con (.int 1))), (.con (.int 1)), (.var 4), (.var 5), (.con (.int 1))])]⟩
def d__law_great_right : Dn := ⟨topS 43, ["cup", "at", "bowl", "hill", "told", "due", "step", "low", "stairs", "ends", ".0", "height"], ["cup"], ["cup"], false, [
  .asg (.name 2) (.bi .tuple [(.lc (.bin .Mult (.bin .Sub (.var 1) (.con (.int 30))) (.bin .Sub (.var 1) (.con (.int 30)))) (.name 1) .rng [(.con (.int 60))] [] [10, 1])]),
  .par [3, 1] [(.bi .tuple [(.lc (.neg (.var 11)) (.name 11) .seq [(.var 2)] [] [10, 11])]), (.call "_law_roll" false [(.var 0), (.con (.int 60))])],
  .asg (.name 4) (.lst [(.call "tower_height" false [(.var 2), (.var 1)]), (.ix (.call "least_tower" false [(.var 2)]) (.con (.int 0))), (.call "tower_height" false [(.var 3), (.con (.int 30))]), (.call "tower_height" false [(.var 3), (.con (.int 0))]), (.call "tower_height" false [(.var 3), (.con (.int 59))])]),
  .asg (.name 5) (.lst [(.tup [(.con (.int 0)), (.con (.int 1))]), (.tup [(.con (.int 0)), (.con (.int 1))]), (.tup [(.con (.int 870)), (.con (.int 1))]), (.tup [(.bin .Mult (.con (.int 58)) (.con (.int 59))), (.con (.int 1))]), (.tup [(.bin .Sub (.bin .Mult (.con (.int 59)) (.con (.int 59))) (.con (.int 59))), (.con (.int 1))])]),
  .ife (.not (.call "_law_like" false [(.var 4), (.var 5)])) [.ret (.con (.bl false))] [],
  .par [6, 7] [(.bin .Add (.con (.int 1)) (.call "_law_roll" false [(.var 0), (.con (.int 58))])), (.call "_law_roll" false [(.var 0), (.con (.int 1000))])],
  .asg (.name 8) (.bin .Add (.bin .Mult (.tup [(.con (.int 0))]) (.var 6)) (.bin .Mult (.tup [(.var 7)]) (.bin .Sub (.con (.int 60)) (.var 6)))),
  .asg (.name 4) (.lst [(.call "tower_height" false [(.var 8), (.con (.int 0))]), (.call "tower_height" false [(.var 8), (.con (.int 59))]), (.call "tower_height" false [(.var 8), (.var 6)]), (.call "tower_height" false [(.var 8), (.bin .Sub (.var 6) (.con (.int 1)))])]),
  .ife (.not (.call "_law_like" false [(.var 4), (.lst [(.tup [(.var 7), (.con (.int 1))]), (.tup [(.bin .Mult (.bin .Sub (.con (.int 59)) (.var 6)) (.var 7)), (.con (.int 1))]), (.tup [(.con (.int 0)), (.con (.int 1))]), (.tup [(.var 7), (.con (.int 1))])])])) [.ret (.con (.bl false))] [],
  .asg (.name 9) (.bin .Add (.tup [(.neg (.con (.int 1000000))), (.con (.int 1000000))]) (.bin .Mult (.tup [(.con (.int 0))]) (.con (.int 58)))),
  .asg (.name 4) (.lst [(.call "tower_height" false [(.var 9), (.con (.int 59))]), (.call "sees_all" false [(.var 9), (.con (.int 59)), (.tup [(.con (.int 116999999)), (.con (.int 1))])]), (.call "sees_all" false [(.var 9), (.con (.int 59)), (.tup [(.con (.int 117000001)), (.con (.int 1))])])]),
  .ret (.and (.call "_law_like" false [(.var 4), (.lst [(.tup [(.con (.int 117000000)), (.con (.int 1))]), (.con (.bl false)), (.con (.bl true))])]) (.call "_law_right" false [(.var 0), (.call "_law_profile" false [(.var 0), (.con (.int 12)), (.con (.int 1000000))])]))]⟩
def d__law_written_right : Dn := ⟨topS 44, ["some", "told", "due"], [], [], false, [
  .asg (.name 0) (.tup [(.con (.int 0)), (.con (.int 3)), (.con (.int 1)), (.con (.int 4))]),
  .asg (.name 1) (.lst [(.call "tower_height" false [(.var 0), (.con (.int 2))]), (.call "tower_height" false [(.var 0), (.con (.int 1))]), (.call "sees_all" false [(.var 0), (.con (.int 3)), (.tup [(.con (.int 9)), (.con (.int 2))])]), (.call "hidden_piece" false [(.var 0), (.con (.int 3)), (.tup [(.con (.int 9)), (.con (.int 2))])]), (.call "least_tower" false [(.var 0)])]),
  .asg (.name 1) (.bin .Add (.var 1) (.lst [(.call "is_hidden_piece" false [(.var 0), (.con (.int 0)), (.tup [(.con (.int 1)), (.con (.int 1))]), (.con (.int 1))]), (.call "tower_height" false [(.tup [(.con (.int 0)), (.con (.int 0)), (.con (.int 1)), (.con (.int 3))]), (.con (.int 0))])])),
  .asg (.name 1) (.bin .Add (.var 1) (.lst [(.call "sees_all" false [(.var 0), (.con (.int 3)), (.tup [(.con (.int 5)), (.con (.int 1))])]), (.call "is_hidden_piece" false [(.var 0), (.con (.int 0)), (.tup [(.con (.int 5)), (.con (.int 1))]), (.con (.int 1))]), (.call "is_hidden_piece" false [(.var 0), (.con (.int 0)), (.tup [(.con (.int 1)), (.con (.int 1))]), (.con (.bl true))]), (.call "tower_height" false [(.tup [(.con (.int 7)), (.con (.int 2))]), (.con (.int 1))])])),
  .asg (.name 1) (.bin .Add (.var 1) (.lst [(.call "least_tower" false [(.tup [(.con (.int 0)), (.con (.int 0))])]), (.call "sees_all" false [(.var 0), (.con (.int 2)), (.tup [(.con (.int 9999999999999)), (.con (.int 2000000000000))])])])),
  .asg (.name 2) (.lst [(.tup [(.con (.int 5)), (.con (.int 1))]), (.tup [(.con (.int 0)), (.con (.int 1))]), (.con (.bl false)), (.con (.int 0)), (.tup [(.tup [(.con (.int 0)), (.con (.int 1))]), (.tup [(.con (.int 1))])]), (.con (.bl true)), (.tup [(.con (.int 0)), (.con (.int 1))]), (.con (.bl true)), (.con (.bl false)), (.con (.bl false)), (.tup [(.con (.int 0)), (.con (.int 1))]), (.tup [(.tup [(.con (.int 0)), (.con (.int 1))]), (.tup [(.con (.int 0)), (.con (.int 1))])]), (.con (.bl false))]),
  .ret (.call "_law_like" false [(.var 1), (.var 2)])]⟩
def d_law : Dn := ⟨topS 45, ["script", "cup", "turn"], ["script"], ["cup"], false, [
  .new 1 (.call "_law_cup" true [(.var 0)]),
  .for (.name 2) .rng [(.con (.int 5))] [.ife (.or (.not (.call "_law_right" false [(.var 1), (.call "_law_profile" false [(.var 1), (.con (.int 9)), (.call "_law_some" false [(.var 1), (.lst [(.con (.int 1)), (.con (.int 4)), (.con (.int 100))])])])])) (.not (.call "_law_points_right" false [(.var 1)]))) [.ret (.con (.bl false))] []],
  .ret (.and (.call "_law_great_right" false [(.var 1)]) (.call "_law_written_right" false []))]⟩
def tb : Tb := [("is_whole", d_is_whole), ("is_tuple_of", d_is_tuple_of), ("is_profile_in", d_is_profile_in), ("need_profile", d_need_profile), ("need_at", d_need_at), ("is_measure", d_is_measure), ("gap_of", d_gap_of), ("line_at", d_line_at), ("need_tower", d_need_tower), ("least_in", d_least_in), ("is_below", d_is_below), ("tower_height", d_tower_height), ("sees_all", d_sees_all), ("hidden_piece", d_hidden_piece), ("is_hidden_piece", d_is_hidden_piece), ("least_tower", d_least_tower), ("_law_cup", d__law_cup), ("_law_roll", d__law_roll), ("_law_some", d__law_some), ("_law_sort", d__law_sort), ("_law_like", d__law_like), ("_law_profile", d__law_profile), ("_law_gcd", d__law_gcd), ("_law_measure", d__law_measure), ("_law_goes_below", d__law_goes_below), ("_law_sees", d__law_sees), ("_law_line", d__law_line), ("_law_right", d__law_right), ("_law_points_right", d__law_points_right), ("_law_great_right", d__law_great_right), ("_law_written_right", d__law_written_right), ("law", d_law)]
theorem ok_is_whole : DnOk tb bis cs gcs "is_whole" d_is_whole := ⟨⟨rfl, rfl, rfl, by decide +kernel, rfl, by decide +kernel, by decide +kernel⟩, by kernel_rfl, fun _ _ _ _ _ _ us hl => match us, hl with | [_, _, _], _ => rfl⟩
theorem ok_is_tuple_of : DnOk tb bis cs gcs "is_tuple_of" d_is_tuple_of := ⟨⟨rfl, rfl, rfl, by decide +kernel, rfl, by decide +kernel, by decide +kernel⟩, by kernel_rfl, fun _ _ _ _ _ _ us hl => match us, hl with | [_, _, _], _ => rfl⟩
theorem ok_is_profile_in : DnOk tb bis cs gcs "is_profile_in" d_is_profile_in := ⟨⟨rfl, rfl, rfl, by decide +kernel, rfl, by decide +kernel, by decide +kernel⟩, by kernel_rfl, fun _ _ _ _ _ _ us hl => match us, hl with | [_], _ => rfl⟩
theorem ok_need_profile : DnOk tb bis cs gcs "need_profile" d_need_profile := ⟨⟨rfl, rfl, rfl, by decide +kernel, rfl, by decide +kernel, by decide +kernel⟩, by kernel_rfl, fun _ _ _ _ _ _ us hl => match us, hl with | [_], _ => rfl⟩
theorem ok_need_at : DnOk tb bis cs gcs "need_at" d_need_at := ⟨⟨rfl, rfl, rfl, by decide +kernel, rfl, by decide +kernel, by decide +kernel⟩, by kernel_rfl, fun _ _ _ _ _ _ us hl => match us, hl with | [_, _], _ => rfl⟩
theorem ok_is_measure : DnOk tb bis cs gcs "is_measure" d_is_measure := ⟨⟨rfl, rfl, rfl, by decide +kernel, rfl, by decide +kernel, by decide +kernel⟩, by kernel_rfl, fun _ _ _ _ _ _ us hl => match us, hl with | [_], _ => rfl⟩
theorem ok_gap_of : DnOk tb bis cs gcs "gap_of" d_gap_of := ⟨⟨rfl, rfl, rfl, by decide +kernel, rfl, by decide +kernel, by decide +kernel⟩, by kernel_rfl, fun _ _ _ _ _ _ us hl => match us, hl with | [_, _], _ => rfl⟩
theorem ok_line_at : DnOk tb bis cs gcs "line_at" d_line_at := ⟨⟨rfl, rfl, rfl, by decide +kernel, rfl, by decide +kernel, by decide +kernel⟩, by kernel_rfl, fun _ _ _ _ _ _ us hl => match us, hl with | [_, _, _], _ => rfl⟩
theorem ok_need_tower : DnOk tb bis cs gcs "need_tower" d_need_tower := ⟨⟨rfl, rfl, rfl, by decide +kernel, rfl, by decide +kernel, by decide +kernel⟩, by kernel_rfl, fun _ _ _ _ _ _ us hl => match us, hl with | [_, _, _], _ => rfl⟩
theorem ok_least_in : DnOk tb bis cs gcs "least_in" d_least_in := ⟨⟨rfl, rfl, rfl, by decide +kernel, rfl, by decide +kernel, by decide +kernel⟩, by kernel_rfl, fun _ _ _ _ _ _ us hl => match us, hl with | [_, _], _ => rfl⟩
theorem ok_is_below : DnOk tb bis cs gcs "is_below" d_is_below := ⟨⟨rfl, rfl, rfl, by decide +kernel, rfl, by decide +kernel, by decide +kernel⟩, by kernel_rfl, fun _ _ _ _ _ _ us hl => match us, hl with | [_, _, _, _], _ => rfl⟩
theorem ok_tower_height : DnOk tb bis cs gcs "tower_height" d_tower_height := ⟨⟨rfl, rfl, rfl, by decide +kernel, rfl, by decide +kernel, by decide +kernel⟩, by kernel_rfl, fun _ _ _ _ _ _ us hl => match us, hl with | [_, _], _ => rfl⟩
theorem ok_sees_all : DnOk tb bis cs gcs "sees_all" d_sees_all := ⟨⟨rfl, rfl, rfl, by decide +kernel, rfl, by decide +kernel, by decide +kernel⟩, by kernel_rfl, fun _ _ _ _ _ _ us hl => match us, hl with | [_, _, _], _ => rfl⟩
theorem ok_hidden_piece : DnOk tb bis cs gcs "hidden_piece" d_hidden_piece := ⟨⟨rfl, rfl, rfl, by decide +kernel, rfl, by decide +kernel, by decide +kernel⟩, by kernel_rfl, fun _ _ _ _ _ _ us hl => match us, hl with | [_, _, _], _ => rfl⟩
theorem ok_is_hidden_piece : DnOk tb bis cs gcs "is_hidden_piece" d_is_hidden_piece := ⟨⟨rfl, rfl, rfl, by decide +kernel, rfl, by decide +kernel, by decide +kernel⟩, by kernel_rfl, fun _ _ _ _ _ _ us hl => match us, hl with | [_, _, _, _], _ => rfl⟩
theorem ok_least_tower : DnOk tb bis cs gcs "least_tower" d_least_tower := ⟨⟨rfl, rfl, rfl, by decide +kernel, rfl, by decide +kernel, by decide +kernel⟩, by kernel_rfl, fun _ _ _ _ _ _ us hl => match us, hl with | [_], _ => rfl⟩
theorem ok__law_cup : DnOk tb bis cs gcs "_law_cup" d__law_cup := ⟨⟨rfl, rfl, rfl, by decide +kernel, rfl, by decide +kernel, by decide +kernel⟩, by kernel_rfl, fun _ _ _ _ _ _ us hl => match us, hl with | [_], _ => rfl⟩
theorem ok__law_roll : DnOk tb bis cs gcs "_law_roll" d__law_roll := ⟨⟨rfl, rfl, rfl, by decide +kernel, rfl, by decide +kernel, by decide +kernel⟩, by kernel_rfl, fun _ _ _ _ _ _ us hl => match us, hl with | [_, _], _ => rfl⟩
theorem ok__law_some : DnOk tb bis cs gcs "_law_some" d__law_some := ⟨⟨rfl, rfl, rfl, by decide +kernel, rfl, by decide +kernel, by decide +kernel⟩, by kernel_rfl, fun _ _ _ _ _ _ us hl => match us, hl with | [_, _], _ => rfl⟩
theorem ok__law_sort : DnOk tb bis cs gcs "_law_sort" d__law_sort := ⟨⟨rfl, rfl, rfl, by decide +kernel, rfl, by decide +kernel, by decide +kernel⟩, by kernel_rfl, fun _ _ _ _ _ _ us hl => match us, hl with | [_], _ => rfl⟩
theorem ok__law_like : DnOk tb bis cs gcs "_law_like" d__law_like := ⟨⟨rfl, rfl, rfl, by decide +kernel, rfl, by decide +kernel, by decide +kernel⟩, by kernel_rfl, fun _ _ _ _ _ _ us hl => match us, hl with | [_, _], _ => rfl⟩
theorem ok__law_profile : DnOk tb bis cs gcs "_law_profile" d__law_profile := ⟨⟨rfl, rfl, rfl, by decide +kernel, rfl, by decide +kernel, by decide +kernel⟩, by kernel_rfl, fun _ _ _ _ _ _ us hl => match us, hl with | [_, _, _], _ => rfl⟩
theorem ok__law_gcd : DnOk tb bis cs gcs "_law_gcd" d__law_gcd := ⟨⟨rfl, rfl, rfl, by decide +kernel, rfl, by decide +kernel, by decide +kernel⟩, by kernel_rfl, fun _ _ _ _ _ _ us hl => match us, hl with | [_, _], _ => rfl⟩
theorem ok__law_measure : DnOk tb bis cs gcs "_law_measure" d__law_measure := ⟨⟨rfl, rfl, rfl, by decide +kernel, rfl, by decide +kernel, by decide +kernel⟩, by kernel_rfl, fun _ _ _ _ _ _ us hl => match us, hl with | [_, _], _ => rfl⟩
theorem ok__law_goes_below : DnOk tb bis cs gcs "_law_goes_below" d__law_goes_below := ⟨⟨rfl, rfl, rfl, by decide +kernel, rfl, by decide +kernel, by decide +kernel⟩, by kernel_rfl, fun _ _ _ _ _ _ us hl => match us, hl with | [_, _, _, _, _, _, _], _ => rfl⟩
theorem ok__law_sees : DnOk tb bis cs gcs "_law_sees" d__law_sees := ⟨⟨rfl, rfl, rfl, by decide +kernel, rfl, by decide +kernel, by decide +kernel⟩, by kernel_rfl, fun _ _ _ _ _ _ us hl => match us, hl with | [_, _, _, _], _ => rfl⟩
theorem ok__law_line : DnOk tb bis cs gcs "_law_line" d__law_line := ⟨⟨rfl, rfl, rfl, by decide +kernel, rfl, by decide +kernel, by decide +kernel⟩, by kernel_rfl, fun _ _ _ _ _ _ us hl => match us, hl with | [_, _, _], _ => rfl⟩
theorem ok__law_right : DnOk tb bis cs gcs "_law_right" d__law_right := ⟨⟨rfl, rfl, rfl, by decide +kernel, rfl, by decide +kernel, by decide +kernel⟩, by kernel_rfl, fun _ _ _ _ _ _ us hl => match us, hl with | [_, _], _ => rfl⟩
theorem ok__law_points_right : DnOk tb bis cs gcs "_law_points_right" d__law_points_right := ⟨⟨rfl, rfl, rfl, by decide +kernel, rfl, by decide +kernel, by decide +kernel⟩, by kernel_rfl, fun _ _ _ _ _ _ us hl => match us, hl with | [_], _ => rfl⟩
theorem ok__law_great_right : DnOk tb bis cs gcs "_law_great_right" d__law_great_right := ⟨⟨rfl, rfl, rfl, by decide +kernel, rfl, by decide +kernel, by decide +kernel⟩, by kernel_rfl, fun _ _ _ _ _ _ us hl => match us, hl with | [_], _ => rfl⟩
theorem ok__law_written_right : DnOk tb bis cs gcs "_law_written_right" d__law_written_right := ⟨⟨rfl, rfl, rfl, by decide +kernel, rfl, by decide +kernel, by decide +kernel⟩, by kernel_rfl, fun _ _ _ _ _ _ us hl => match us, hl with | [], _ => rfl⟩
theorem ok_law : DnOk tb bis cs gcs "law" d_law := ⟨⟨rfl, rfl, rfl, by decide +kernel, rfl, by decide +kernel, by decide +kernel⟩, by kernel_rfl, fun _ _ _ _ _ _ us hl => match us, hl with | [_], _ => rfl⟩
theorem ok_all : AllP (DnOk tb bis cs gcs) tb := ⟨ok_is_whole, ok_is_tuple_of, ok_is_profile_in, ok_need_profile, ok_need_at, ok_is_measure, ok_gap_of, ok_line_at, ok_need_tower, ok_least_in, ok_is_below, ok_tower_height, ok_sees_all, ok_hidden_piece, ok_is_hidden_piece, ok_least_tower, ok__law_cup, ok__law_roll, ok__law_some, ok__law_sort, ok__law_like, ok__law_profile, ok__law_gcd, ok__law_measure, ok__law_goes_below, ok__law_sees, ok__law_line, ok__law_right, ok__law_points_right, ok__law_great_right, ok__law_written_right, ok_law, trivial⟩
abbrev run (k : Nat) : CallF := callF tb.tab 600 k
end Lk58

set_option Elab.async false
set_option linter.all false
set_option maxRecDepth 100000
set_option maxHeartbeats 4000000
namespace Lk58
open PySem DV
theorem lk_sort : tb.tab.lookup ("_law_sort" : Str) = some df_sort := by kernel_rfl
theorem lk_like : tb.tab.lookup ("_law_like" : Str) = some df_like := by kernel_rfl
theorem lk_roll : tb.tab.lookup ("_law_roll" : Str) = some df_roll := by kernel_rfl
theorem lk_cup : tb.tab.lookup ("_law_cup" : Str) = some df_cup := by kernel_rfl
theorem lk_some : tb.tab.lookup ("_law_some" : Str) = some df_some := by kernel_rfl

abbrev T (ps : List Int) : D := .tup (ps.map .int)
structure Prof (ps : List Int) : Prop where
  lo : 2 ≤ ps.length
  hi : ps.length ≤ 60
  el : ∀ x ∈ ps, -1000000 ≤ x ∧ x ≤ 1000000
theorem Prof.g {ps : List Int} (P : Prof ps) (i : Nat) : -1000000 ≤ ng ps i ∧ ng ps i ≤ 1000000 := by
  by_cases h : i < ps.length
  · exact P.el _ (ng_mem h)
  · simp [ng, List.getElem?_eq_none (by omega : ps.length ≤ i)]
def wh (d : D) (lo hi : Int) : Bool := match d with
  | .int x => decide (lo ≤ x) && decide (x ≤ hi)
  | _ => false
variable {k : Nat} {S : Store}
theorem s_is_whole (d : D) (lo hi : Int) (h : flatD d = true) : run (k + 1) "is_whole" [.p d, .p (.int lo), .p (.int hi)] S = .ok (.p (.bl (wh d lo hi))) S := by
  rw [run, callF_succ (d := d_is_whole.df) (by kernel_rfl) rfl]
  cases d with
  | int x =>
    by_cases h1 : lo ≤ x <;> simp [d_is_whole, Dn.df, isiD, wh, h1]
  | scr _ => cases h
  | fn _ => cases h
  | _ => simp [d_is_whole, Dn.df, isiD, wh]
theorem s_is_whole_int (x lo hi : Int) : run (k + 1) "is_whole" [.p (.int x), .p (.int lo), .p (.int hi)] S = .ok (.p (.bl (decide (lo ≤ x) && decide (x ≤ hi)))) S := s_is_whole (.int x) lo hi rfl
theorem s_is_tuple_of (xs : List D) (lo hi : Int) : run (k + 1) "is_tuple_of" [.p (.tup xs), .p (.int lo), .p (.int hi)] S = .ok (.p (.bl (decide (lo ≤ xs.length) && decide ((xs.length : Int) ≤ hi)))) S := by
  rw [run, callF_succ (d := d_is_tuple_of.df) (by kernel_rfl) rfl]
  by_cases h1 : lo ≤ xs.length <;> simp [d_is_tuple_of, Dn.df, isiD, ders, biF, biLen, h1]
theorem s_is_profile {ps : List Int} (P : Prof ps) : run (k + 2) "is_profile_in" [.p (T ps)] S = .ok (.p (.bl true)) S := by
  rw [run, callF_succ (d := d_is_profile_in.df) (by kernel_rfl) rfl]
  have h1 := P.lo
  have h2 := P.hi
  have e := s_is_tuple_of (k := k) (S := S) (ps.map .int) 2 60
  simp only [run] at e
  have t1 : (2 : Int) ≤ ps.length := by omega
  have t2 : (ps.length : Int) ≤ 60 := by omega
  simp [d_is_profile_in, Dn.df, e, t1, t2]
  rw [lc_pure (vs := [.p (T ps)]) (ds := ps.map .int) (W := []) (g := fun d => some (.bl (wh d (-1000000) 1000000))) (by simp) rfl rfl (fun d hd => ?_) (by simp; exact size1000 (by omega))]
  · simp [ders, biF, biAll, blsOf_map, wh, Function.comp_def]
    intro x hx
    exact P.el x hx
  · obtain ⟨x, _, rfl⟩ := List.mem_map.mp hd
    have e2 := s_is_whole_int (k := k) (S := S) x (-1000000) 1000000
    simp only [run] at e2
    simp [lcTurn, e2, wh]
theorem s_need_profile {ps : List Int} (P : Prof ps) : run (k + 3) "need_profile" [.p (T ps)] S = .ok (.p .non) S := by
  rw [run, callF_succ (d := d_need_profile.df) (by kernel_rfl) rfl]
  have e := s_is_profile (k := k) (S := S) P
  simp only [run] at e
  simp [d_need_profile, Dn.df, e]
theorem s_need_at {ps : List Int} (P : Prof ps) {i : Nat} (hi : i < ps.length) : run (k + 4) "need_at" [.p (T ps), .p (.int i)] S = .ok (.p .non) S := by
  rw [run, callF_succ (d := d_need_at.df) (by kernel_rfl) rfl]
  have e := s_need_profile (k := k) (S := S) P
  have e2 := s_is_whole_int (k := k + 2) (S := S) i 0 (ps.length - 1)
  simp only [run] at e e2
  have t1 : (0 : Int) ≤ i := by omega
  have t2 : (i : Int) ≤ ps.length - 1 := by omega
  simp [d_need_at, Dn.df, e, e2, ders, biF, biLen, t2]
structure Ms (a b : Int) : Prop where
  a0 : 0 ≤ a
  a1 : a ≤ 9223372036854775807
  b0 : 1 ≤ b
  b1 : b ≤ 9223372036854775807
  co : Nat.gcd a.natAbs b.natAbs = 1
abbrev M (a b : Int) : D := .tup [.int a, .int b]
theorem s_is_measure {a b : Int} (m : Ms a b) : run (k + 2) "is_measure" [.p (M a b)] S = .ok (.p (.bl true)) S := by
  rw [run, callF_succ (d := d_is_measure.df) (by kernel_rfl) rfl]
  have e := s_is_tuple_of (k := k) (S := S) [.int a, .int b] 2 2
  have e2 := s_is_whole_int (k := k) (S := S) a (-1000000000000000000000000000000000000000000000000000000000000) 1000000000000000000000000000000000000000000000000000000000000
  have e3 := s_is_whole_int (k := k) (S := S) b 1 1000000000000000000000000000000000000000000000000000000000000
  simp only [run] at e e2 e3
  obtain ⟨a0, a1, b0, b1, co⟩ := m
  have t1 : a ≤ 1000000000000000000000000000000000000000000000000000000000000 := by omega
  have t2 : (-1000000000000000000000000000000000000000000000000000000000000 : Int) ≤ a := by omega
  have t3 : b ≤ 1000000000000000000000000000000000000000000000000000000000000 := by omega
  simp [d_is_measure, Dn.df, e, e2, e3, t1, t2, t3, b0, atI0, atI1, ders, biF, biGcd, eqD_int, co]
theorem s_gap_of {a b c d : Int} (hb : smallI b) (hd : smallI d) : run (k + 1) "gap_of" [.p (M a b), .p (M c d)] S = .ok (.p (.int (a * d - c * b))) S := by
  rw [run, callF_succ (d := d_gap_of.df) (by kernel_rfl) rfl]
  simp [d_gap_of, Dn.df, atI0, atI1, binD_mul (mulS' hb), binD_mul (mulS' hd)]
def L (ps : List Int) (j i : Nat) : Int := ng ps j + (ng ps (j + 1) - ng ps j) * ((i : Int) - j)
theorem mul_bd {x y : Int} {B C : Int} (hx : -B ≤ x) (hx2 : x ≤ B) (hy : -C ≤ y) (hy2 : y ≤ C) : -(B * C) ≤ x * y ∧ x * y ≤ B * C := by
  have hB : 0 ≤ B := by omega
  have hC : 0 ≤ C := by omega
  have : (x * y).natAbs ≤ (B * C).natAbs := by
    rw [Int.natAbs_mul, Int.natAbs_mul]
    exact Nat.mul_le_mul (by omega) (by omega)
  have h2 : 0 ≤ B * C := Int.mul_nonneg hB hC
  omega
theorem L_bd {ps : List Int} (P : Prof ps) {j i : Nat} (hj : j < 60) (hi : i < 60) : -200000000 ≤ L ps j i ∧ L ps j i ≤ 200000000 := by
  have h1 := P.g j
  have h2 := P.g (j + 1)
  have := mul_bd (x := ng ps (j + 1) - ng ps j) (y := (i : Int) - j) (B := 2000000) (C := 60) (by omega) (by omega) (by omega) (by omega)
  unfold L
  omega
theorem s_line_at {ps : List Int} (P : Prof ps) {j i : Nat} (hj : j + 1 < ps.length) (hi : i < ps.length) : run (k + 1) "line_at" [.p (T ps), .p (.int j), .p (.int i)] S = .ok (.p (.int (L ps j i))) S := by
  rw [run, callF_succ (d := d_line_at.df) (by kernel_rfl) rfl]
  have hs : smallI ((i : Int) - j) := by have := P.hi; exact small_of (by omega) (by omega)
  have g1 := at_ng (ps := ps) (i := j) (by omega)
  simp [d_line_at, Dn.df, at_ng1 hj, g1, binD_mul (mulS' hs), L]
theorem s_need_tower {ps : List Int} (P : Prof ps) {i : Nat} (hi : i < ps.length) {a b : Int} (m : Ms a b) : run (k + 5) "need_tower" [.p (T ps), .p (.int i), .p (M a b)] S = .ok (.p .non) S := by
  rw [run, callF_succ (d := d_need_tower.df) (by kernel_rfl) rfl]
  have e := s_need_at (k := k) (S := S) P hi
  have e2 := s_is_measure (k := k + 2) (S := S) m
  simp only [run] at e e2
  have na : ¬ a < 0 := by have := m.a0; omega
  simp [d_need_tower, Dn.df, e, e2, atI0, na]
/-- the greatest line's height over i -/
def mx (ps : List Int) (i : Nat) : Int := (maxI ((List.range (ps.length - 1)).map fun j => L ps j i)).getD 0
theorem mx_is {ps : List Int} (P : Prof ps) (i : Nat) : maxI ((List.range (ps.length - 1)).map fun j => L ps j i) = some (mx ps i) ∧ (∃ j, j + 1 < ps.length ∧ L ps j i = mx ps i) ∧ ∀ j, j + 1 < ps.length → L ps j i ≤ mx ps i := by
  have hl := P.lo
  obtain ⟨m, e, h1, h2⟩ := maxI_some (xs := (List.range (ps.length - 1)).map fun j => L ps j i) (by
    intro z
    have := congrArg List.length z
    simp at this
    omega)
  have em : mx ps i = m := by unfold mx; rw [e]; rfl
  rw [em]
  refine ⟨e, ?_, fun j hj => h2 _ (List.mem_map.mpr ⟨j, List.mem_range.mpr (by omega), rfl⟩)⟩
  obtain ⟨j, hj, q⟩ := List.mem_map.mp h1
  exact ⟨j, by have := List.mem_range.mp hj; omega, q⟩
def own (ps : List Int) (i : Nat) : Int := mx ps i - ng ps i
theorem lc_lines {ps : List Int} (P : Prof ps) {i : Nat} (hi : i < ps.length) {f : Str} {a b c : Nat} {ρ : DV.Loc} {ow : List Nat} {n : DE} (hn : evE (run k) n ρ S = .ok (.p (.int ((ps.length : Int) - 1))) S)
    (hf : ∀ j : Nat, j + 1 < ps.length → lcTurn (run k) (.call f false [.var a, .var b, .var c]) (.name b) [] ow ρ (.int j) S = .ok (some (.int (L ps j i))) S) :
    evE (run k) (.lc (.call f false [.var a, .var b, .var c]) (.name b) .rng [n] [] ow) ρ S = .ok (.p (.lst ((List.range (ps.length - 1)).map fun j => .int (L ps j i)))) S := by
  have hl := P.lo
  have hh := P.hi
  rw [lc_pure (vs := [.p (.int ((ps.length : Int) - 1))]) (ds := (List.range (ps.length - 1)).map fun j => D.int (j : Nat)) (W := []) (g := fun d => match d with
    | .int j => some (.int (L ps j.toNat i))
    | _ => none) (by simp [hn]) (items_rngI (n := ps.length - 1) (by omega) (by omega)) rfl (fun d hd => ?_) (by rw [List.length_map, List.length_range]; exact size1000 (by omega))]
  · simp [List.filterMap_map, Function.comp_def]
  · obtain ⟨j, hj, rfl⟩ := List.mem_map.mp hd
    have := List.mem_range.mp hj
    rw [hf j (by omega)]
    simp
theorem s_least_in {ps : List Int} (P : Prof ps) {i : Nat} (hi : i < ps.length) : run (k + 2) "least_in" [.p (T ps), .p (.int i)] S = .ok (.p (.int (own ps i))) S := by
  rw [run, callF_succ (d := d_least_in.df) (by kernel_rfl) rfl]
  simp [d_least_in, Dn.df]
  rw [lc_lines (k := k + 1) P hi (by simp [ders, biF, biLen]) (fun j hj => ?_)]
  · simp [ders, biF, biMax, intsOf_map, (mx_is P i).1, at_ng hi, own]
  · have e := s_line_at (k := k) (S := S) P hj hi
    simp only [run] at e
    simp [lcTurn, e]
end Lk58

set_option Elab.async false
set_option linter.all false
set_option maxRecDepth 100000
set_option maxHeartbeats 4000000
namespace Lk58
open PySem DV
variable {k : Nat} {S : Store}
theorem own_bd {ps : List Int} (P : Prof ps) {i : Nat} (hi : i < ps.length) : 0 ≤ own ps i ∧ own ps i ≤ 300000000 := by
  obtain ⟨_, ⟨j, hj, e⟩, h⟩ := mx_is P i
  have hh := P.hi
  have hl := P.lo
  have b1 := P.g i
  have b2 := L_bd P (j := j) (i := i) (by omega) (by omega)
  have b3 : ng ps i ≤ mx ps i := by
    by_cases hi0 : i + 1 < ps.length
    · have := h i hi0
      simp [L] at this
      exact this
    · have := h (i - 1) (by omega)
      have e1 : i - 1 + 1 = i := by omega
      have e2 : ((i - 1 : Nat) : Int) = (i : Int) - 1 := by omega
      simp only [L, e1, e2] at this
      have e3 : (i : Int) - (i - 1) = 1 := by omega
      rw [e3, Int.mul_one] at this
      omega
  unfold own
  omega
/-- a piece's line is over the tower -/
def bl (ps : List Int) (i : Nat) (a b : Int) (j : Nat) : Bool := decide (0 < (L ps j i - ng ps i) * b - a)
theorem s_is_below {ps : List Int} (P : Prof ps) {i j : Nat} (hi : i < ps.length) (hj : j + 1 < ps.length) {a b : Int} (m : Ms a b) : run (k + 2) "is_below" [.p (T ps), .p (.int i), .p (M a b), .p (.int j)] S = .ok (.p (.bl (bl ps i a b j))) S := by
  rw [run, callF_succ (d := d_is_below.df) (by kernel_rfl) rfl]
  have e := s_line_at (k := k) (S := S) P hj hi
  have e2 := s_gap_of (k := k) (S := S) (a := L ps j i - ng ps i) (b := 1) (c := a) (d := b) (by decide) (small_of (by have := m.b0; omega) (by have := m.b1; omega))
  simp only [run] at e e2
  simp [d_is_below, Dn.df, e, at_ng hi, pures, e2, bl]
theorem s_tower_height {ps : List Int} (P : Prof ps) {i : Nat} (hi : i < ps.length) : run (k + 5) "tower_height" [.p (T ps), .p (.int i)] S = .ok (.p (M (own ps i) 1)) S := by
  rw [run, callF_succ (d := d_tower_height.df) (by kernel_rfl) rfl]
  have e := s_need_at (k := k) (S := S) P hi
  have e2 := s_least_in (k := k + 2) (S := S) P hi
  simp only [run] at e e2
  simp [d_tower_height, Dn.df, e, e2, pures]
theorem s_sees_all {ps : List Int} (P : Prof ps) {i : Nat} (hi : i < ps.length) {a b : Int} (m : Ms a b) : run (k + 6) "sees_all" [.p (T ps), .p (.int i), .p (M a b)] S = .ok (.p (.bl (decide (own ps i * b ≤ a)))) S := by
  rw [run, callF_succ (d := d_sees_all.df) (by kernel_rfl) rfl]
  have e := s_need_tower (k := k) (S := S) P hi m
  have e2 := s_least_in (k := k + 3) (S := S) P hi
  have e3 := s_gap_of (k := k + 4) (S := S) (a := own ps i) (b := 1) (c := a) (d := b) (by decide) (small_of (by have := m.b0; omega) (by have := m.b1; omega))
  simp only [run] at e e2 e3
  simp [d_sees_all, Dn.df, e, e2, e3, pures]
  omega
/-- the pieces over the tower, in order -/
def pcs (ps : List Int) (i : Nat) (a b : Int) : List Nat := (List.range (ps.length - 1)).filter (bl ps i a b)
def pc1 : List Nat → D
  | [] => .non
  | j :: _ => .int (j : Nat)
theorem s_hidden_piece {ps : List Int} (P : Prof ps) {i : Nat} (hi : i < ps.length) {a b : Int} (m : Ms a b) : run (k + 6) "hidden_piece" [.p (T ps), .p (.int i), .p (M a b)] S = .ok (.p (pc1 (pcs ps i a b))) S := by
  rw [run, callF_succ (d := d_hidden_piece.df) (by kernel_rfl) rfl]
  have hl := P.lo
  have hh := P.hi
  have e := s_need_tower (k := k) (S := S) P hi m
  simp only [run] at e
  simp [d_hidden_piece, Dn.df, e]
  rw [lc_pure (vs := [.p (.int ((ps.length : Int) - 1))]) (ds := (List.range (ps.length - 1)).map fun j => D.int (j : Nat)) (W := []) (g := fun d => match d with
    | .int j => if bl ps i a b j.toNat then some (.int j) else none
    | _ => none) (by simp [ders, biF, biLen]) (items_rngI (n := ps.length - 1) (by omega) (by omega)) rfl (fun d hd => ?_) (by rw [List.length_map, List.length_range]; exact size1000 (by omega))]
  · rw [fm_filter (bl ps i a b) (fun j : Nat => D.int (j : Nat)) _ _ (fun j hj => by simp)]
    unfold pcs
    generalize (List.range (ps.length - 1)).filter (bl ps i a b) = xs
    cases xs with
    | nil => simp [pc1, show eqD (.lst []) (.lst []) = some true from rfl]
    | cons j r =>
      have q := eqD_nats0 (j :: r)
      simp only [List.map_cons] at q
      simp [pc1, q, atI0]
  · obtain ⟨j, hj, rfl⟩ := List.mem_map.mp hd
    have := List.mem_range.mp hj
    have e2 := s_is_below (k := k + 3) (S := S) P hi (j := j) (by omega) m
    simp only [run] at e2
    cases hb : bl ps i a b j <;> simp [lcTurn, e2, hb]
theorem s_is_hidden_piece {ps : List Int} (P : Prof ps) {i : Nat} (hi : i < ps.length) {a b : Int} (m : Ms a b) (d : D) (hd : flatD d = true) :
    run (k + 6) "is_hidden_piece" [.p (T ps), .p (.int i), .p (M a b), .p d] S = .ok (.p (.bl (match d with
      | .int x => decide (0 ≤ x) && decide (x ≤ (ps.length : Int) - 2) && bl ps i a b x.toNat
      | _ => false))) S := by
  rw [run, callF_succ (d := d_is_hidden_piece.df) (by kernel_rfl) rfl]
  have e := s_need_tower (k := k) (S := S) P hi m
  have e2 := s_is_whole (k := k + 4) (S := S) d 0 ((ps.length : Int) - 2) hd
  simp only [run] at e e2
  cases d with
  | int x =>
    by_cases h1 : 0 ≤ x
    · by_cases h2 : x ≤ (ps.length : Int) - 2
      · obtain ⟨j, rfl⟩ := Int.eq_ofNat_of_zero_le h1
        have e3 := s_is_below (k := k + 3) (S := S) P hi (j := j) (by have := P.lo; omega) m
        simp only [run] at e3
        simp [d_is_hidden_piece, Dn.df, e, ders, biF, biLen, e2, wh, h2, e3]
      · simp [d_is_hidden_piece, Dn.df, e, ders, biF, biLen, e2, wh, h1, h2]
    · simp [d_is_hidden_piece, Dn.df, e, ders, biF, biLen, e2, wh, h1]
  | scr _ => cases hd
  | fn _ => cases hd
  | _ => simp [d_is_hidden_piece, Dn.df, e, ders, biF, biLen, e2, wh]

/-! the law's own defs -/
theorem s_line {ps : List Int} (P : Prof ps) {j i : Nat} (hj : j + 1 < ps.length) (hi : i < ps.length) : run (k + 1) "_law_line" [.p (T ps), .p (.int j), .p (.int i)] S = .ok (.p (.int (L ps j i))) S := by
  rw [run, callF_succ (d := d__law_line.df) (by kernel_rfl) rfl]
  have hs : smallI ((i : Int) - j) := by have := P.hi; exact small_of (by omega) (by omega)
  have g1 := at_ng (ps := ps) (i := j) (by omega)
  simp [d__law_line, Dn.df, at_ng1 hj, g1, binD_mul (mulS' hs), L]
theorem s_measure2 {x : Int} (h0 : 0 ≤ x) : run (k + 2) "_law_measure" [.p (.int (2 * x + 1)), .p (.int 2)] S = .ok (.p (M (2 * x + 1) 2)) S := by
  have e : run (k + 1) "_law_gcd" [.p (.int (2 * x + 1)), .p (.int 2)] S = .ok (.p (.int 1)) S := by
    rw [run, callF_succ (d := d__law_gcd.df) (by kernel_rfl) rfl]
    obtain ⟨r, hr⟩ : ∃ r, (List.range 400).map (fun j : Nat => D.int (j : Nat)) = .int 0 :: .int 1 :: .int 2 :: r := ⟨_, rfl⟩
    have hi : itemsOf .rng [.p (.int 400)] S = some (.int 0 :: .int 1 :: .int 2 :: r, []) := by rw [← hr]; exact items_rng (n := 400) (by decide)
    have m1 : (2 * x + 1).fmod 2 = 1 := by rw [Int.fmod_eq_emod_of_nonneg _ (by decide)]; omega
    have e1 := evS_for (call := callF tb.tab 600 k) (wf := 600) (tg := .name 2) (k := .rng) (args := [.con (.int 400)]) (body := [.ife (.cmp .Eq (.var 1) (.con (.int 0))) [.ret (.var 0)] [], .par [0, 1] [(.var 1), (.bin .Mod (.bi .int [(.var 0)]) (.var 1))]]) (ρ := [some (.p (.int (2 * x + 1))), some (.p (.int 2)), none]) (S := S) (vs := [.p (.int 400)]) (by simp) hi
    simp [d__law_gcd, Dn.df, e1]
    simp [forL, eqD_int, ders, biF, biInt, binD_mod, m1, show (2 : Int).fmod 1 = 0 from by decide]
  rw [run, callF_succ (d := d__law_measure.df) (by kernel_rfl) rfl]
  simp only [run] at e
  simp [d__law_measure, Dn.df, e, binD_div (show divOK 1 from by decide), pures, Int.fdiv_one]
theorem s_measure7 {x : Int} (h0 : 0 < x) : run (k + 2) "_law_measure" [.p (.int (7 * x - 1)), .p (.int 7)] S = .ok (.p (M (7 * x - 1) 7)) S := by
  have e : run (k + 1) "_law_gcd" [.p (.int (7 * x - 1)), .p (.int 7)] S = .ok (.p (.int 1)) S := by
    rw [run, callF_succ (d := d__law_gcd.df) (by kernel_rfl) rfl]
    obtain ⟨r, hr⟩ : ∃ r, (List.range 400).map (fun j : Nat => D.int (j : Nat)) = .int 0 :: .int 1 :: .int 2 :: .int 3 :: r := ⟨_, rfl⟩
    have hi : itemsOf .rng [.p (.int 400)] S = some (.int 0 :: .int 1 :: .int 2 :: .int 3 :: r, []) := by rw [← hr]; exact items_rng (n := 400) (by decide)
    have m1 : (7 * x - 1).fmod 7 = 6 := by rw [Int.fmod_eq_emod_of_nonneg _ (by decide)]; omega
    have e1 := evS_for (call := callF tb.tab 600 k) (wf := 600) (tg := .name 2) (k := .rng) (args := [.con (.int 400)]) (body := [.ife (.cmp .Eq (.var 1) (.con (.int 0))) [.ret (.var 0)] [], .par [0, 1] [(.var 1), (.bin .Mod (.bi .int [(.var 0)]) (.var 1))]]) (ρ := [some (.p (.int (7 * x - 1))), some (.p (.int 7)), none]) (S := S) (vs := [.p (.int 400)]) (by simp) hi
    simp [d__law_gcd, Dn.df, e1]
    simp [forL, eqD_int, ders, biF, biInt, binD_mod, m1, show (7 : Int).fmod 6 = 1 from by decide, show (6 : Int).fmod 1 = 0 from by decide]
  rw [run, callF_succ (d := d__law_measure.df) (by kernel_rfl) rfl]
  simp only [run] at e
  simp [d__law_measure, Dn.df, e, binD_div (show divOK 1 from by decide), pures, Int.fdiv_one]
end Lk58

set_option Elab.async false
set_option linter.all false
set_option maxRecDepth 100000
set_option maxHeartbeats 4000000
namespace Lk58
open PySem DV
variable {k : Nat} {S : Store}
theorem enumD_range (n : Nat) (f : Nat → D) : enumD ((List.range n).map f) = (List.range n).map fun j => D.tup [.int (j : Nat), f j] := by
  refine List.ext_getElem? fun i => ?_
  unfold enumD
  rw [List.getElem?_map, List.getElem?_zipIdx, List.getElem?_map, List.getElem?_map]
  by_cases h : i < n
  · simp [h]
  · simp [List.getElem?_eq_none (by simpa using h : (List.range n).length ≤ i)]
def mn (ps : List Int) : Int := (minI ((List.range ps.length).map fun i => own ps i)).getD 0
theorem mn_is {ps : List Int} (P : Prof ps) : minI ((List.range ps.length).map fun i => own ps i) = some (mn ps) := by
  obtain ⟨m, e, _⟩ := minI_some (xs := (List.range ps.length).map fun i => own ps i) (by
    intro z
    have h0 := congrArg List.length z
    rw [List.length_map, List.length_range] at h0
    have := P.lo
    simp only [List.length_nil] at h0
    omega)
  unfold mn
  rw [e]; rfl
def LT (ps : List Int) : D := .tup [M (mn ps) 1, .tup (((List.range ps.length).filter fun i => decide (own ps i = mn ps)).map fun i => D.int (i : Nat))]
theorem s_least_tower {ps : List Int} (P : Prof ps) : run (k + 4) "least_tower" [.p (T ps)] S = .ok (.p (LT ps)) S := by
  rw [run, callF_succ (d := d_least_tower.df) (by kernel_rfl) rfl]
  have hh := P.hi
  have e := s_need_profile (k := k) (S := S) P
  simp only [run] at e
  simp [d_least_tower, Dn.df, e]
  rw [lc_pure (vs := [.p (.int (ps.length : Int))]) (ds := (List.range ps.length).map fun j => D.int (j : Nat)) (W := []) (g := fun d => match d with
    | .int j => some (.int (own ps j.toNat))
    | _ => none) (by simp [ders, biF, biLen]) (items_rng (by omega)) rfl (fun d hd => ?_) (by rw [List.length_map, List.length_range]; exact size1000 (by omega))]
  · simp [List.filterMap_map, Function.comp_def, ders, biF, biMin, intsOf_map, mn_is P]
    rw [lc_pure (vs := [.p (.lst ((List.range ps.length).map fun x => D.int (own ps x)))]) (ds := (List.range ps.length).map fun j => D.tup [.int (j : Nat), .int (own ps j)]) (W := []) (g := fun d => match d with
      | .tup [.int j, .int x] => if x = mn ps then some (.int j) else none
      | _ => none) (by simp) ?_ rfl (fun d hd => ?_) (by rw [List.length_map, List.length_range]; exact size1000 (by omega))]
    · have : (((List.range ps.length).map fun j => D.tup [.int (j : Nat), .int (own ps j)]).filterMap fun d => match d with
          | .tup [.int j, .int x] => if x = mn ps then some (.int j) else none
          | _ => none) = ((List.range ps.length).filter fun i => decide (own ps i = mn ps)).map fun i => D.int (i : Nat) := by
        induction List.range ps.length with
        | nil => rfl
        | cons x xs ih =>
          by_cases h : own ps x = mn ps <;> simp [List.filter_cons, h] at ih ⊢ <;> exact ih
      rw [this]
      simp [biF, biTuple, pures, LT]
    · simp only [itemsOf, der_p, watchOf_p, Option.bind_some, enumD_range]
    · obtain ⟨j, _, rfl⟩ := List.mem_map.mp hd
      by_cases h : own ps j = mn ps <;> simp [lcTurn, eqD_int, h]
  · obtain ⟨j, hj, rfl⟩ := List.mem_map.mp hd
    have := List.mem_range.mp hj
    have e2 := s_least_in (k := k + 1) (S := S) P (i := j) (by omega)
    simp only [run] at e2
    simp [lcTurn, e2]
theorem s_draw {most top : Int} (h1 : 2 ≤ most) (h2 : most ≤ 12) (h3 : 0 ≤ top) (h4 : top ≤ 1000000) (hS : Has S) : ∃ ps S', Prof ps ∧ Up S S' ∧ run (k + 2) "_law_profile" [.c 0, .p (.int most), .p (.int top)] S = .ok (.p (T ps)) S' := by
  obtain ⟨v, S1, v0, v1, u1, e1⟩ := s_roll (wf := 600) (k := k) lk_roll (m := most - 1) (by omega) (by omega) hS
  obtain ⟨n, rfl⟩ := Int.eq_ofNat_of_zero_le v0
  have hm : mulOK 2 top := .inl (by decide)
  have ha : evL (callF tb.tab 600 (k + 1)) [(.bin .Add (.con (.int 2)) (.call "_law_roll" false [(.var 0), (.bin .Sub (.var 1) (.con (.int 1)))]))] [some (.c 0), some (.p (.int most)), some (.p (.int top)), none, none] S = .ok [.p (.int ((n + 2 : Nat) : Int))] S1 := by
    simp [e1]
    omega
  obtain ⟨ys, S2, e2, v2, l2, p2⟩ := lc_run (call := callF tb.tab 600 (k + 1)) (elt := .bin .Sub (.call "_law_roll" false [(.var 0), (.bin .Add (.bin .Mult (.con (.int 2)) (.var 2)) (.con (.int 1)))]) (.var 2)) (tg := .name 4) (k := .rng) (ifs := []) (own := [3, 4])
    (P := fun y => ∃ i, y = .int i ∧ -1000000 ≤ i ∧ i ≤ 1000000) ha (items_rng (n := n + 2) (by omega)) (fun d hd S' hv => by
      have hS' : Has S' := (hv (u1.has hS)).has (u1.has hS)
      obtain ⟨v, S3, v0, v1, u3, e3⟩ := s_roll (wf := 600) (k := k) lk_roll (m := 2 * top + 1) (by omega) (by omega) hS'
      refine ⟨.int (v - top), S3, ?_, fun _ => u3, _, rfl, by omega, by omega⟩
      obtain ⟨j, _, rfl⟩ := List.mem_map.mp hd
      simp [lcTurn, binD_mul hm, e3]) (by rw [List.length_map, List.length_range]; exact size1000 (by omega))
  obtain ⟨ns, rfl, hn⟩ := all_ints p2
  have hl : ns.length = n + 2 := by simpa using l2
  refine ⟨ns, S2, ⟨by omega, by omega, hn⟩, u1.trans (v2 (u1.has hS)), ?_⟩
  rw [run, callF_succ (d := d__law_profile.df) (by kernel_rfl) rfl]
  have u2 := u1.trans (v2 (u1.has hS))
  simp [d__law_profile, Dn.df, e2, ders, biF, biTuple, u2.take]
def ab (x : Int) : Int := if x < 0 then -x else x
theorem ab_bd {x B : Int} (h1 : -B ≤ x) (h2 : x ≤ B) : 0 ≤ ab x ∧ ab x ≤ B := by unfold ab; split <;> omega
/-- the place m is over the line of sight to part r of q of piece j -/
def gb' (ps : List Int) (i : Nat) (top : Int) (q : Nat) (A h lo hi : Int) (m : Nat) : Bool :=
  decide (lo < m * q) && decide ((m : Int) * q < hi) && decide (top * q * ab (m * q - A) + h * 1 * ab (m * q - i * q) < ng ps m * q * 1 * (hi - lo))
def gb (ps : List Int) (i : Nat) (top : Int) (j q r : Nat) (m : Nat) : Bool :=
  gb' ps i top q (j * q + r) (ng ps j * (q - r) + ng ps (j + 1) * r) (if (j : Int) * q + r < i * q then (j : Int) * q + r else i * q) (if (i : Int) * q < j * q + r then (j : Int) * q + r else i * q) m
theorem s_goes_below {ps : List Int} (P : Prof ps) {i j q r : Nat} (hi : i < ps.length) (hj : j + 1 < ps.length) (hq : 1 ≤ q) (hq3 : q ≤ 3) (hr : r ≤ q) {top : Int} :
    run (k + 1) "_law_goes_below" [.p (T ps), .p (.int i), .p (.int top), .p (.int 1), .p (.int j), .p (.int r), .p (.int q)] S = .ok (.p (.bl ((List.range ps.length).any (gb ps i top j q r)))) S := by
  rw [run, callF_succ (d := d__law_goes_below.df) (by kernel_rfl) rfl]
  have hh := P.hi
  have m1 : ∀ x : Int, mulOK x 1 := fun x => mulS' (by decide)
  have mq : ∀ x : Int, mulOK x q := fun x => mulS' (small_of (by omega) (by omega))
  have mr : ∀ x : Int, mulOK x r := fun x => mulS' (small_of (by omega) (by omega))
  have mqr : ∀ x : Int, mulOK x ((q : Int) - r) := fun x => mulS' (small_of (by omega) (by omega))
  have g1 := at_ng (ps := ps) (i := j) (by omega)
  have g2 := at_ng1 hj
  have iq : ((i : Int) * q) ≤ 180 ∧ 0 ≤ (i : Int) * q := by
    have := mul_bd (x := (i : Int)) (y := (q : Int)) (B := 60) (C := 3) (by omega) (by omega) (by omega) (by omega)
    have := Int.mul_nonneg (a := (i : Int)) (b := (q : Int)) (by omega) (by omega)
    omega
  have jq : ((j : Int) * q) ≤ 180 ∧ 0 ≤ (j : Int) * q := by
    have := mul_bd (x := (j : Int)) (y := (q : Int)) (B := 60) (C := 3) (by omega) (by omega) (by omega) (by omega)
    have := Int.mul_nonneg (a := (j : Int)) (b := (q : Int)) (by omega) (by omega)
    omega
  have aA : -180 ≤ (j : Int) * q + r ∧ (j : Int) * q + r ≤ 183 := by omega
  simp [d__law_goes_below, Dn.df, g1, g2, binD_mul, mq, mr, mqr, ders, biF, biMin, biMax]
  rw [evS_for (vs := [.p (.int (ps.length : Int))]) (S1 := S) (ds := (List.range ps.length).map fun m => D.int (m : Nat)) (W := []) (by simp [ders, biF, biLen]) (items_rng (by omega))]
  have gbe : gb ps i top j q r = gb' ps i top q (j * q + r) (ng ps j * (q - r) + ng ps (j + 1) * r) (if (j : Int) * q + r < i * q then (j : Int) * q + r else i * q) (if (i : Int) * q < j * q + r then (j : Int) * q + r else i * q) := rfl
  rw [gbe]
  have hlo : 0 ≤ (if (j : Int) * q + r < i * q then (j : Int) * q + r else i * q) ∧ (if (j : Int) * q + r < i * q then (j : Int) * q + r else i * q) ≤ 183 := by split <;> omega
  have hhi : 0 ≤ (if (i : Int) * q < j * q + r then (j : Int) * q + r else i * q) ∧ (if (i : Int) * q < j * q + r then (j : Int) * q + r else i * q) ≤ 183 := by split <;> omega
  generalize (if (j : Int) * q + r < i * q then (j : Int) * q + r else i * q) = lo at hlo ⊢
  generalize (if (i : Int) * q < j * q + r then (j : Int) * q + r else i * q) = hi' at hhi ⊢
  generalize (ng ps j * ((q : Int) - r) + ng ps (j + 1) * r) = h
  generalize ((j : Int) * q + r) = A at aA ⊢
  generalize hr : forL _ _ _ _ _ _ = res
  have hs := search_of (.p (.bl true)) hr rfl (fun ρ => ∃ x y z, ρ = [some (.p (T ps)), some (.p (.int i)), some (.p (.int top)), some (.p (.int 1)), some (.p (.int j)), some (.p (.int r)), some (.p (.int q)), some (.p (.int A)), some (.p (.int h)), some (.p (.int lo)), some (.p (.int hi')), x, y, z])
    (fun d => match d with
      | .int m => gb' ps i top q A h lo hi' m.toNat
      | _ => false) ⟨_, _, _, rfl⟩ (fun d hd ρ hρ => by
    obtain ⟨x, y, z, rfl⟩ := hρ
    obtain ⟨m, hm, rfl⟩ := List.mem_map.mp hd
    have hm := List.mem_range.mp hm
    have g3 := at_ng hm
    have mq3 : ((m : Int) * q) ≤ 180 ∧ 0 ≤ (m : Int) * q := by
      have := mul_bd (x := (m : Int)) (y := (q : Int)) (B := 60) (C := 3) (by omega) (by omega) (by omega) (by omega)
      have := Int.mul_nonneg (a := (m : Int)) (b := (q : Int)) (by omega) (by omega)
      omega
    have b1 := ab_bd (x := (m : Int) * q - A) (B := 1000) (by omega) (by omega)
    have b2 := ab_bd (x := (m : Int) * q - i * q) (B := 1000) (by omega) (by omega)
    have e1 : ∀ x : Int, mulOK x (ab ((m : Int) * q - A)) := fun x => mulS' (small_of (by omega) (by omega))
    have e2 : ∀ x : Int, mulOK x (ab ((m : Int) * q - i * q)) := fun x => mulS' (small_of (by omega) (by omega))
    have e3 : ∀ x : Int, mulOK x (hi' - lo) := fun x => mulS' (small_of (by omega) (by omega))
    have abf : ∀ x : Int, (if x < 0 then -x else x) = ab x := fun _ => rfl
    refine ⟨_, rfl, fun hp => ?_, fun hp => ?_⟩
    · simp [gb'] at hp
      simp [binD_mul, mq, hp.1.1, hp.1.2, ders, biF, biAbs, abf, e1, e2, e3, m1, g3, hp.2]
    · by_cases c1 : lo < (m : Int) * q
      · by_cases c2 : (m : Int) * q < hi'
        · simp [gb', c1, c2] at hp
          simp [binD_mul, mq, c1, c2, ders, biF, biAbs, abf, e1, e2, e3, m1, g3, Int.not_lt.mpr hp]
        · simp [binD_mul, mq, c1, c2]
      · simp [binD_mul, mq, c1])
  have ha : ((List.range ps.length).map fun m => D.int (m : Nat)).any (fun d => match d with
      | .int m => gb' ps i top q A h lo hi' m.toNat
      | _ => false) = (List.range ps.length).any (gb' ps i top q A h lo hi') := by
    rw [List.any_map]
    rfl
  rw [ha] at hs
  rcases hs with ⟨hp, rfl⟩ | ⟨hp, ρ', rfl, _⟩ <;> simp [hp]

theorem s_sees {ps : List Int} (P : Prof ps) {i : Nat} (hi : i < ps.length) {top : Int} (hv : ∀ j r m, j + 1 < ps.length → r ≤ 3 → gb ps i top j 3 r m = false) :
    run (k + 2) "_law_sees" [.p (T ps), .p (.int i), .p (.int top), .p (.int 1)] S = .ok (.p (.bl true)) S := by
  rw [run, callF_succ (d := d__law_sees.df) (by kernel_rfl) rfl]
  have hl := P.lo
  have hh := P.hi
  simp [d__law_sees, Dn.df]
  rw [evS_for (vs := [.p (.int ((ps.length : Int) - 1))]) (S1 := S) (ds := (List.range (ps.length - 1)).map fun m => D.int (m : Nat)) (W := []) (by simp [ders, biF, biLen]) (items_rngI (n := ps.length - 1) (by omega) (by omega))]
  generalize hr : forL _ _ _ _ _ _ = res
  obtain ⟨ρ', S', rfl, rfl, _⟩ := all_of hr (fun _ ρ S' => S' = S ∧ ∃ x y z, ρ = [some (.p (T ps)), some (.p (.int i)), some (.p (.int top)), some (.p (.int 1)), x, y, z]) ⟨rfl, _, _, _, rfl⟩ (fun _ _ _ _ => rfl) (fun j hj ρ S' hI => by
    obtain ⟨rfl, x, y, z, rfl⟩ := hI
    have hj' : j < ps.length - 1 := by simpa using hj
    refine ⟨_, [some (.p (T ps)), some (.p (.int i)), some (.p (.int top)), some (.p (.int 1)), some (.p (.int j)), y, z], _, rfl, .inl ?_, rfl, _, _, _, rfl⟩
    simp
    rw [lc_pure (vs := [.p (.int 4)]) (ds := (List.range 4).map fun m => D.int (m : Nat)) (W := []) (g := fun _ => none) (by simp) (items_rng (n := 4) (by decide)) rfl (fun d hd => ?_) (by simp; exact size1000 (by decide))]
    · simp [show eqD (.lst []) (.lst []) = some true from rfl]
      rfl
    · obtain ⟨r, hr, rfl⟩ := List.mem_map.mp hd
      have hr := List.mem_range.mp hr
      have e := s_goes_below (k := k) (S := S') P (i := i) (j := j) (q := 3) (r := r) hi (by omega) (by omega) (by omega) (by omega) (top := top)
      have ha : (List.range ps.length).any (gb ps i top j 3 r) = false := by
        rw [List.any_eq_false]
        intro m _
        rw [hv j r m (by omega) (by omega)]
        simp
      rw [ha] at e
      simp only [run] at e
      have e' : callF tb.tab 600 (k + 1) "_law_goes_below" [.p (T ps), .p (.int i), .p (.int top), .p (.int 1), .p (.int j), .p (.int r), .p (.int 3)] S' = .ok (.p (.bl false)) S' := e
      simp [lcTurn, e'])
  simp
end Lk58

set_option Elab.async false
set_option linter.all false
set_option maxRecDepth 100000
set_option maxHeartbeats 4000000
namespace Lk58
open PySem DV
/-! ### the plane -/
theorem slopeR {ps : List Int} {i : Nat} {top : Int} (H : ∀ j, j + 1 < ps.length → L ps j i ≤ top) {m : Nat} (hm : i < m) : ∀ d : Nat, m + d < ps.length → (top - ng ps (m + d)) * ((m : Int) - i) ≤ (top - ng ps m) * (((m + d : Nat) : Int) - i)
  | 0, _ => by simp
  | d + 1, h => by
    have ih := slopeR H hm d (by omega)
    have hL := H (m + d) (by omega)
    unfold L at hL
    have hd : (0 : Int) < ((m + d : Nat) : Int) - i := by omega
    have hd2 : (0 : Int) ≤ ((m + d : Nat) : Int) + 1 - i := by omega
    have hm2 : (0 : Int) < (m : Int) - i := by omega
    have e : ((m + (d + 1) : Nat) : Int) = ((m + d : Nat) : Int) + 1 := by omega
    rw [e, show m + (d + 1) = m + d + 1 by omega]
    generalize ng ps (m + d + 1) = c at *
    generalize ng ps (m + d) = b at *
    generalize ng ps m = a at *
    generalize ((m + d : Nat) : Int) = n at *
    generalize (m : Int) = m at *
    generalize (i : Int) = i at *
    -- (n - i) > 0
    have f1 := Int.mul_le_mul_of_nonneg_right ih hd2
    have f2 : (top - c) * (n - i) ≤ (top - b) * (n + 1 - i) := by grind
    have f3 := Int.mul_le_mul_of_nonneg_right f2 (Int.le_of_lt hm2)
    have f4 : (n - i) * ((top - c) * (m - i)) ≤ (n - i) * ((top - a) * (n + 1 - i)) := by grind
    exact Int.le_of_mul_le_mul_left f4 hd
theorem slopeL {ps : List Int} {i : Nat} {top : Int} (H : ∀ j, j + 1 < ps.length → L ps j i ≤ top) (hi : i < ps.length) {m : Nat} (hm : m < i) : ∀ d : Nat, d ≤ m → (top - ng ps (m - d)) * ((i : Int) - m) ≤ (top - ng ps m) * ((i : Int) - ((m - d : Nat) : Int))
  | 0, _ => by simp
  | d + 1, h => by
    have ih := slopeL H hi hm d (by omega)
    have hL := H (m - (d + 1)) (by omega)
    unfold L at hL
    have e1 : m - (d + 1) + 1 = m - d := by omega
    rw [e1] at hL
    have e : ((m - d : Nat) : Int) = ((m - (d + 1) : Nat) : Int) + 1 := by omega
    rw [e] at ih
    have hd : (0 : Int) < (i : Int) - (((m - (d + 1) : Nat) : Int) + 1) := by omega
    have hd2 : (0 : Int) ≤ (i : Int) - ((m - (d + 1) : Nat) : Int) := by omega
    have hm2 : (0 : Int) < (i : Int) - m := by omega
    generalize ng ps (m - (d + 1)) = c at *
    generalize ng ps (m - d) = b at *
    generalize ng ps m = a at *
    generalize ((m - (d + 1) : Nat) : Int) = n at *
    generalize (m : Int) = m at *
    generalize (i : Int) = i at *
    have f1 := Int.mul_le_mul_of_nonneg_right ih hd2
    have f2 : (top - c) * (i - (n + 1)) ≤ (top - b) * (i - n) := by grind
    have f3 := Int.mul_le_mul_of_nonneg_right f2 (Int.le_of_lt hm2)
    have f4 : (i - (n + 1)) * ((top - c) * (i - m)) ≤ (i - (n + 1)) * ((top - a) * (i - n)) := by grind
    exact Int.le_of_mul_le_mul_left f4 hd
theorem no_gb {ps : List Int} {i : Nat} {top : Int} (H : ∀ j, j + 1 < ps.length → L ps j i ≤ top) (hi : i < ps.length) {j r m : Nat} (hj : j + 1 < ps.length) (hr : r ≤ 3) : gb ps i top j 3 r m = false := by
  cases hb : gb ps i top j 3 r m with
  | false => rfl
  | true =>
    exfalso
    simp only [gb, gb', Bool.and_eq_true, decide_eq_true_eq] at hb
    obtain ⟨⟨h1, h2⟩, h3⟩ := hb
    by_cases c : (j : Int) * (3 : Nat) + r < (i : Int) * (3 : Nat)
    · rw [if_pos c] at h1 h3
      rw [if_neg (by omega)] at h2 h3
      have s1 := slopeL H hi (m := m) (by omega) (m - j) (by omega)
      have s2 := slopeL H hi (m := m) (by omega) (m - (j + 1)) (by omega)
      rw [show m - (m - j) = j by omega] at s1
      rw [show m - (m - (j + 1)) = j + 1 by omega] at s2
      have e1 : ab ((m : Int) * (3 : Nat) - ((j : Int) * (3 : Nat) + r)) = (m : Int) * 3 - (j * 3 + r) := by unfold ab; rw [if_neg (by omega)]; rfl
      have e2 : ab ((m : Int) * (3 : Nat) - (i : Int) * (3 : Nat)) = (i : Int) * 3 - m * 3 := by unfold ab; rw [if_pos (by omega)]; omega
      rw [e1, e2] at h3
      push_cast at s2 h3
      have hr' : r = 0 ∨ r = 1 ∨ r = 2 ∨ r = 3 := by omega
      rcases hr' with rfl | rfl | rfl | rfl <;> grind
    · by_cases c2 : (i : Int) * (3 : Nat) < (j : Int) * (3 : Nat) + r
      · rw [if_neg c] at h1 h3
        rw [if_pos c2] at h2 h3
        have s1 := slopeR H (m := m) (by omega) (j - m) (by omega)
        have s2 := slopeR H (m := m) (by omega) (j + 1 - m) (by omega)
        rw [show m + (j - m) = j by omega] at s1
        rw [show m + (j + 1 - m) = j + 1 by omega] at s2
        have e1 : ab ((m : Int) * (3 : Nat) - ((j : Int) * (3 : Nat) + r)) = (j * 3 + r) - (m : Int) * 3 := by unfold ab; rw [if_pos (by omega)]; omega
        have e2 : ab ((m : Int) * (3 : Nat) - (i : Int) * (3 : Nat)) = m * 3 - (i : Int) * 3 := by unfold ab; rw [if_neg (by omega)]; rfl
        rw [e1, e2] at h3
        push_cast at s2 h3
        have hr' : r = 0 ∨ r = 1 ∨ r = 2 ∨ r = 3 := by omega
        rcases hr' with rfl | rfl | rfl | rfl <;> grind
      · rw [if_neg c] at h1
        rw [if_neg c2] at h2
        omega
end Lk58

set_option Elab.async false
set_option linter.all false
set_option maxRecDepth 100000
set_option maxHeartbeats 4000000
namespace Lk58
open PySem DV
variable {k : Nat} {S : Store}
theorem bl_iff {ps : List Int} {i j : Nat} {a b : Int} : bl ps i a b j = decide (a < (L ps j i - ng ps i) * b) := by
  unfold bl
  rw [Bool.eq_iff_iff]
  simp
theorem pcs_nil {ps : List Int} (P : Prof ps) {i : Nat} {a b : Int} (hb : 1 ≤ b) : decide (pc1 (pcs ps i a b) = .non) = decide (own ps i * b ≤ a) := by
  have e : pc1 (pcs ps i a b) = .non ↔ pcs ps i a b = [] := by
    cases pcs ps i a b <;> simp [pc1]
  rw [Bool.eq_iff_iff, decide_eq_true_eq, decide_eq_true_eq, e]
  obtain ⟨_, ⟨j, hj, em⟩, hm⟩ := mx_is P i
  unfold pcs own
  rw [List.filter_eq_nil_iff]
  constructor
  · intro h
    have := h j (List.mem_range.mpr (by omega))
    rw [bl_iff, em] at this
    simpa using this
  · intro h x hx
    have hx := List.mem_range.mp hx
    have h1 := hm x (by omega)
    rw [bl_iff]
    have h2 : (L ps x i - ng ps i) * b ≤ (mx ps i - ng ps i) * b := Int.mul_le_mul_of_nonneg_right (by omega) (by omega)
    simp
    omega
def inP (ps : List Int) (i : Nat) (a b : Int) (d : D) : Bool := match d with
  | .int x => decide (∃ j ∈ pcs ps i a b, (j : Int) = x)
  | _ => false
theorem inP_eq {ps : List Int} (P : Prof ps) {i : Nat} {a b : Int} (x : Int) : (decide (0 ≤ x) && decide (x ≤ (ps.length : Int) - 2) && bl ps i a b x.toNat) = decide (∃ j ∈ pcs ps i a b, (j : Int) = x) := by
  have hl := P.lo
  by_cases h : ∃ j ∈ pcs ps i a b, (j : Int) = x
  · rw [decide_eq_true h]
    obtain ⟨j, hj, rfl⟩ := h
    unfold pcs at hj
    obtain ⟨h1, h2⟩ := List.mem_filter.mp hj
    have h1 := List.mem_range.mp h1
    rw [decide_eq_true (by omega : (0 : Int) ≤ j), decide_eq_true (by omega : (j : Int) ≤ ps.length - 2)]
    simpa using h2
  · rw [decide_eq_false h]
    cases hc : (decide (0 ≤ x) && decide (x ≤ (ps.length : Int) - 2) && bl ps i a b x.toNat) with
    | false => rfl
    | true =>
      exfalso
      simp only [Bool.and_eq_true, decide_eq_true_eq] at hc
      exact h ⟨x.toNat, by unfold pcs; exact List.mem_filter.mpr ⟨List.mem_range.mpr (by omega), hc.2⟩, by omega⟩
def inner : List DS := [.asg (.name 8) (.cmp .GtE (.ix (.var 7) (.con (.int 0))) (.bin .Mult (.var 5) (.ix (.var 7) (.con (.int 1))))), .asg (.name 4) (.call "hidden_piece" false [(.var 1), (.var 3), (.var 7)]), .ife (.not (.call "_law_like" false [(.lst [(.call "sees_all" false [(.var 1), (.var 3), (.var 7)]), (.cmp .Is (.var 4) (.con .non))]), (.lst [(.var 8), (.var 8)])])) [.ret (.con (.bl false))] [], .asg (.name 9) (.lc (.var 13) (.name 13) .rng [(.bin .Sub (.bi .len [(.var 1)]) (.con (.int 1)))] [(.cmp .Gt (.bin .Mult (.bin .Sub (.call "_law_line" false [(.var 1), (.var 13), (.var 3)]) (.ix (.var 1) (.var 3))) (.ix (.var 7) (.con (.int 1)))) (.ix (.var 7) (.con (.int 0))))] [12, 13]), .ife (.and (.cmp .IsNot (.var 4) (.con .non)) (.not (.and (.cmp .Eq (.call "_law_sort" false [(.var 4)]) (.con (.int 2))) (.cmp .In (.var 4) (.var 9))))) [.ret (.con (.bl false))] [], .asg (.name 10) (.lst [(.var 4), (.con .non), (.con (.bl true)), (.neg (.con (.int 1))), (.bin .Sub (.bi .len [(.var 1)]) (.con (.int 1))), (.call "_law_roll" false [(.var 0), (.bi .len [(.var 1)])])]), .ife (.not (.call "_law_like" false [(.lc (.call "is_hidden_piece" false [(.var 1), (.var 3), (.var 7), (.var 14)]) (.name 14) .seq [(.var 10)] [] [12, 14]), (.lc (.and (.cmp .Eq (.call "_law_sort" false [(.var 14)]) (.con (.int 2))) (.cmp .In (.var 14) (.var 9))) (.name 14) .seq [(.var 10)] [] [12, 14])])) [.ret (.con (.bl false))] []]
theorem pc1_flat (xs : List Nat) : flatD (pc1 xs) = true := by cases xs <;> rfl
theorem inner_ok {ps : List Int} (P : Prof ps) {i : Nat} (hi : i < ps.length) {a b : Int} (m : Ms a b) (hS : Has S) {n0 : Nat} {x4 x6 x8 x9 x10 x11 x12 x13 x14 : Option Sv} :
    ∃ y4 y8 y9 y10 S', Up S S' ∧ evB (callF tb.tab 600 (k + 8)) 600 inner [some (.c 0), some (.p (T ps)), some (.c n0), some (.p (.int i)), x4, some (.p (.int (own ps i))), x6, some (.p (M a b)), x8, x9, x10, x11, x12, x13, x14] S =
      .nx [some (.c 0), some (.p (T ps)), some (.c n0), some (.p (.int i)), y4, some (.p (.int (own ps i))), x6, some (.p (M a b)), y8, y9, y10, x11, x12, x13, x14] S' := by
  have hl := P.lo
  have hh := P.hi
  have ob := own_bd P hi
  have b0 := m.b0
  have b1 := m.b1
  obtain ⟨v, S', v0, v1, u, er⟩ := s_roll (wf := 600) (k := k + 7) lk_roll (m := (ps.length : Int)) (by omega) (by omega) hS
  refine ⟨some (.p (pc1 (pcs ps i a b))), some (.p (.bl (decide (own ps i * b ≤ a)))), some (.p (.lst ((pcs ps i a b).map fun j => .int (j : Nat)))), some (.p (.lst [pc1 (pcs ps i a b), .non, .bl true, .int (-1), .int ((ps.length : Int) - 1), .int v])), S', u, ?_⟩
  have e1 := s_hidden_piece (k := k + 2) (S := S) P hi m
  have e2 := s_sees_all (k := k + 2) (S := S) P hi m
  have e3 := pcs_nil P (i := i) (a := a) b0
  have e4 : callF tb.tab 600 (k + 8) "_law_like" [.p (.lst [.bl (decide (own ps i * b ≤ a)), .bl (decide (own ps i * b ≤ a))]), .p (.lst [.bl (decide (own ps i * b ≤ a)), .bl (decide (own ps i * b ≤ a))])] S = .ok (.p (.bl true)) S :=
    like_same lk_sort lk_like (n := 1) (by omega) (by simp [okD])
  have mo : mulOK (own ps i) b := mulS (small_of (by omega) (by omega))
  have gi := at_ng hi
  simp only [run] at e1 e2
  simp [inner, atI0, atI1, binD_mul mo, e1, e2, e3, pures, e4]
  rw [lc_pure (vs := [.p (.int ((ps.length : Int) - 1))]) (ds := (List.range (ps.length - 1)).map fun j => D.int (j : Nat)) (W := []) (g := fun d => match d with
    | .int j => if bl ps i a b j.toNat then some (.int j) else none
    | _ => none) (by simp [ders, biF, biLen]) (items_rngI (n := ps.length - 1) (by omega) (by omega)) rfl (fun d hd => ?_) (by rw [List.length_map, List.length_range]; exact size1000 (by omega))]
  rotate_left
  · obtain ⟨j, hj, rfl⟩ := List.mem_map.mp hd
    have hj := List.mem_range.mp hj
    have e5 := s_line (k := k + 7) (S := S) P (j := j) (i := i) (by omega) hi
    have lb := L_bd P (j := j) (i := i) (by omega) (by omega)
    have gb := P.g i
    have mm : mulOK (L ps j i - ng ps i) b := mulS (small_of (by omega) (by omega))
    simp only [run] at e5
    simp only [bl_iff]
    by_cases c : a < (L ps j i - ng ps i) * b <;> simp [lcTurn, e5, gi, atI0, atI1, binD_mul mm, c]
  rw [fm_filter (bl ps i a b) (fun j : Nat => D.int (j : Nat)) _ _ (fun j hj => by simp)]
  rw [show (List.range (ps.length - 1)).filter (bl ps i a b) = pcs ps i a b from rfl]
  simp only [R.st_ok, SR.of_some, SR.seq_nx, bindT_name, List.set_cons_zero, List.set_cons_succ]
  simp
  generalize hif : (if pc1 (pcs ps i a b) = D.non then R.ok false S else _) = rif
  have hrif : rif = R.ok false S := by
    rw [← hif]
    have es := s_sort (wf := 600) (k := k + 7) lk_sort (pc1 (pcs ps i a b)) (pc1_flat _) S
    cases hx : pcs ps i a b with
    | nil => simp [pc1]
    | cons j r =>
      rw [hx] at es
      have hin := isIn_nats (j : Int) (j :: r)
      simp only [List.map_cons] at hin
      simp [pc1] at es
      simp [pc1, es, srt, eqD_int, cmpD, hin]
  rw [hrif]
  have hfl := pc1_flat (pcs ps i a b)
  simp [pures, ders, biF, biLen, er]
  generalize hvals : [pc1 (pcs ps i a b), D.non, D.bl true, D.int (-1), D.int ((ps.length : Int) - 1), D.int v] = vals
  have hvf : ∀ d ∈ vals, flatD d = true := by
    intro d hd
    rw [← hvals] at hd
    simp at hd
    rcases hd with rfl | rfl | rfl | rfl | rfl | rfl <;> first | exact hfl | rfl
  have hvl : vals.length = 6 := by rw [← hvals]; rfl
  rw [lc_pure (vs := [.p (.lst vals)]) (ds := vals) (W := []) (g := fun d => some (.bl (inP ps i a b d))) (by simp) rfl rfl (fun d hd => ?_) (by rw [hvl]; exact size1000 (by omega))]
  rotate_left
  · have e6 := s_is_hidden_piece (k := k + 2) (S := S') P hi m d (hvf d hd)
    simp only [run] at e6
    simp [lcTurn, e6, inP]
    cases d <;> simp
    rename_i x
    have := inP_eq P (i := i) (a := a) (b := b) x
    simpa using this
  simp only [R.bind_ok]
  rw [lc_pure (vs := [.p (.lst vals)]) (ds := vals) (W := []) (g := fun d => some (.bl (inP ps i a b d))) (by simp) rfl rfl (fun d hd => ?_) (by rw [hvl]; exact size1000 (by omega))]
  rotate_left
  · have e7 := s_sort (wf := 600) (k := k + 7) lk_sort d (hvf d hd) S'
    have hd' := hvf d hd
    cases d with
    | int x =>
      have hin := isIn_nats x (pcs ps i a b)
      simp [lcTurn, e7, srt, eqD_int, inP, cmpD, hin]
    | scr _ => cases hd'
    | fn _ => cases hd'
    | _ => simp [lcTurn, e7, srt, eqD_int, inP]
  have e8 : callF tb.tab 600 (k + 8) "_law_like" [.p (.lst (vals.map fun d => .bl (inP ps i a b d))), .p (.lst (vals.map fun d => .bl (inP ps i a b d)))] S' = .ok (.p (.bl true)) S' :=
    like_same lk_sort lk_like (n := 1) (by omega) (by simp [okD, hvl])
  simp [e8]
end Lk58

set_option Elab.async false
set_option linter.all false
set_option maxRecDepth 100000
set_option maxHeartbeats 4000000
namespace Lk58
open PySem DV
variable {k : Nat} {S : Store}
/-- the cup's store with a list behind it -/
def W (S : Store) (xs : List D) (St : Store) : Prop := ∃ a b, CupOk a b ∧ St = S.set 0 (Cup a b) ++ [Cell.lst xs]
theorem W.len {xs : List D} {St : Store} (w : W S xs St) : St.length = S.length + 1 := by
  obtain ⟨a, b, _, rfl⟩ := w
  simp
theorem W.has {xs : List D} {St : Store} (hS : Has S) (w : W S xs St) : Has St := by
  obtain ⟨a, b, ok, rfl⟩ := w
  refine ⟨a, b, ok, ?_⟩
  rw [List.getElem?_append_left (by simpa using hS.len)]
  exact List.getElem?_set_self hS.len
theorem W.up {xs : List D} {St St' : Store} (hS : Has S) (w : W S xs St) (u : Up St St') : W S xs St' := by
  obtain ⟨a, b, ok, rfl⟩ := w
  obtain ⟨c, d, ok', rfl⟩ := u
  refine ⟨c, d, ok', ?_⟩
  rw [List.set_append_left _ _ (by simpa using hS.len), List.set_set]
theorem W.get {xs : List D} {St : Store} (w : W S xs St) : St[S.length]? = some (.lst xs) := by
  obtain ⟨a, b, ok, rfl⟩ := w
  rw [List.getElem?_append_right (by simp)]
  simp
theorem W.app {xs : List D} {St : Store} (w : W S xs St) (ys : List D) : W S ys (St.set S.length (.lst ys)) := by
  obtain ⟨a, b, ok, rfl⟩ := w
  refine ⟨a, b, ok, ?_⟩
  rw [List.set_append_right _ _ (by simp)]
  simp
theorem W.take {xs : List D} {St : Store} (w : W S xs St) : Up S (St.take S.length) := by
  obtain ⟨a, b, ok, rfl⟩ := w
  refine ⟨a, b, ok, ?_⟩
  rw [List.take_append_of_le_length (by simp)]
  exact List.take_of_length_le (by simp)
theorem ms1 {o : Int} (h0 : 0 ≤ o) (h1 : o ≤ 300000000) : Ms o 1 := ⟨h0, by omega, by omega, by omega, by simp⟩
theorem ms2 {o : Int} (h0 : 0 ≤ o) (h1 : o ≤ 300000000) : Ms (2 * o + 1) 2 := by
  refine ⟨by omega, by omega, by omega, by omega, ?_⟩
  rw [Nat.gcd_comm, show (2 : Int).natAbs = 2 from rfl, Nat.gcd_rec, show (2 * o + 1).natAbs % 2 = 1 by omega]
  decide
theorem ms7 {o : Int} (h0 : 0 < o) (h1 : o ≤ 300000000) : Ms (7 * o - 1) 7 := by
  refine ⟨by omega, by omega, by omega, by omega, ?_⟩
  rw [Nat.gcd_comm, show (7 : Int).natAbs = 7 from rfl, Nat.gcd_rec, show (7 * o - 1).natAbs % 7 = 6 by omega]
  decide
def hts (o : Int) : List D := [M o 1, M (2 * o + 1) 2, M 0 1] ++ if 0 < o then [M (7 * o - 1) 7] else []
theorem hts_ms {o : Int} (h0 : 0 ≤ o) (h1 : o ≤ 300000000) : ∀ d ∈ hts o, ∃ a b, d = M a b ∧ Ms a b := by
  intro d hd
  unfold hts at hd
  rcases List.mem_append.mp hd with hd | hd
  · simp only [List.mem_cons, List.not_mem_nil, or_false] at hd
    rcases hd with rfl | rfl | rfl
    · exact ⟨_, _, rfl, ms1 h0 h1⟩
    · exact ⟨_, _, rfl, ms2 h0 h1⟩
    · exact ⟨_, _, rfl, ms1 (by omega) (by omega)⟩
  · split at hd
    · rename_i hp
      simp only [List.mem_cons, List.not_mem_nil, or_false] at hd
      subst hd
      exact ⟨_, _, rfl, ms7 hp h1⟩
    · cases hd
def outer : List DS := [.asg (.name 5) (.bin .Sub (.bi .max [(.lc (.call "_law_line" false [(.var 1), (.var 4), (.var 3)]) (.name 4) .rng [(.bin .Sub (.bi .len [(.var 1)]) (.con (.int 1)))] [] [12, 4])]) (.ix (.var 1) (.var 3))), .app (.var 2) (.var 5), .ife (.not (.call "_law_like" false [(.call "tower_height" false [(.var 1), (.var 3)]), (.tup [(.var 5), (.con (.int 1))])])) [.ret (.con (.bl false))] [], .asg (.name 6) (.bin .Add (.lst [(.tup [(.var 5), (.con (.int 1))]), (.call "_law_measure" false [(.bin .Add (.bin .Mult (.con (.int 2)) (.var 5)) (.con (.int 1))), (.con (.int 2))]), (.tup [(.con (.int 0)), (.con (.int 1))])]) (.ife (.cmp .Gt (.var 5) (.con (.int 0))) (.lst [(.call "_law_measure" false [(.bin .Sub (.bin .Mult (.con (.int 7)) (.var 5)) (.con (.int 1))), (.con (.int 7))])]) (.lst []))), .for (.name 7) .seq [(.var 6)] inner]
theorem outer_ok {ps : List Int} (P : Prof ps) {i : Nat} (hi : i < ps.length) (hS : Has S) {xs : List D} {St : Store} (w : W S xs St) (hx : xs.length ≤ 60) {x4 x5 x6 x7 x8 x9 x10 x11 x12 x13 x14 : Option Sv} :
    ∃ y4 y5 y6 y7 y8 y9 y10 y11 y12 y13 y14 St', W S (xs ++ [.int (own ps i)]) St' ∧ evB (callF tb.tab 600 (k + 8)) 600 outer [some (.c 0), some (.p (T ps)), some (.c S.length), some (.p (.int i)), x4, x5, x6, x7, x8, x9, x10, x11, x12, x13, x14] St =
      .nx [some (.c 0), some (.p (T ps)), some (.c S.length), some (.p (.int i)), y4, y5, y6, y7, y8, y9, y10, y11, y12, y13, y14] St' := by
  have hl := P.lo
  have hh := P.hi
  have ob := own_bd P hi
  have gi := at_ng hi
  have hsz : xs.length < sizeLine := Nat.lt_of_le_of_lt hx (by decide)
  have w2 := w.app (xs ++ [.int (own ps i)])
  have wg := w.get
  have st1 : evS (callF tb.tab 600 (k + 8)) 600 (.asg (.name 5) (.bin .Sub (.bi .max [(.lc (.call "_law_line" false [(.var 1), (.var 4), (.var 3)]) (.name 4) .rng [(.bin .Sub (.bi .len [(.var 1)]) (.con (.int 1)))] [] [12, 4])]) (.ix (.var 1) (.var 3)))) [some (.c 0), some (.p (T ps)), some (.c S.length), some (.p (.int i)), x4, x5, x6, x7, x8, x9, x10, x11, x12, x13, x14] St =
      .nx [some (.c 0), some (.p (T ps)), some (.c S.length), some (.p (.int i)), x4, some (.p (.int (own ps i))), x6, x7, x8, x9, x10, x11, x12, x13, x14] St := by
    simp
    rw [lc_lines (k := k + 8) P hi (by simp [ders, biF, biLen]) (fun j hj => ?_)]
    rotate_left
    · have e := s_line (k := k + 7) (S := St) P (j := j) (i := i) hj hi
      simp only [run] at e
      simp [lcTurn, e]
    simp [ders, biF, biMax, intsOf_map, (mx_is P i).1, gi, own]
  generalize hSt2 : St.set S.length (.lst (xs ++ [.int (own ps i)])) = St2 at w2
  have st2 : evS (callF tb.tab 600 (k + 8)) 600 (.app (.var 2) (.var 5)) [some (.c 0), some (.p (T ps)), some (.c S.length), some (.p (.int i)), x4, some (.p (.int (own ps i))), x6, x7, x8, x9, x10, x11, x12, x13, x14] St =
      .nx [some (.c 0), some (.p (T ps)), some (.c S.length), some (.p (.int i)), x4, some (.p (.int (own ps i))), x6, x7, x8, x9, x10, x11, x12, x13, x14] St2 := by
    simp [wg, hsz, hSt2]
  have e1 := s_tower_height (k := k + 3) (S := St2) P hi
  have e2 : callF tb.tab 600 (k + 8) "_law_like" [.p (M (own ps i) 1), .p (M (own ps i) 1)] St2 = .ok (.p (.bl true)) St2 := like_same lk_sort lk_like (n := 1) (by omega) (by simp [okD])
  have e3 := s_measure2 (k := k + 6) (S := St2) ob.1
  have m2 : mulOK 2 (own ps i) := .inl (by decide)
  have m7 : mulOK 7 (own ps i) := .inl (by decide)
  simp only [run] at e1 e3
  have st3 : evS (callF tb.tab 600 (k + 8)) 600 (.ife (.not (.call "_law_like" false [(.call "tower_height" false [(.var 1), (.var 3)]), (.tup [(.var 5), (.con (.int 1))])])) [.ret (.con (.bl false))] []) [some (.c 0), some (.p (T ps)), some (.c S.length), some (.p (.int i)), x4, some (.p (.int (own ps i))), x6, x7, x8, x9, x10, x11, x12, x13, x14] St2 =
      .nx [some (.c 0), some (.p (T ps)), some (.c S.length), some (.p (.int i)), x4, some (.p (.int (own ps i))), x6, x7, x8, x9, x10, x11, x12, x13, x14] St2 := by
    simp [e1, pures, e2]
  have key : ∃ hs, (∀ d ∈ hs, ∃ a b, d = M a b ∧ Ms a b) ∧ evS (callF tb.tab 600 (k + 8)) 600 (.asg (.name 6) (.bin .Add (.lst [(.tup [(.var 5), (.con (.int 1))]), (.call "_law_measure" false [(.bin .Add (.bin .Mult (.con (.int 2)) (.var 5)) (.con (.int 1))), (.con (.int 2))]), (.tup [(.con (.int 0)), (.con (.int 1))])]) (.ife (.cmp .Gt (.var 5) (.con (.int 0))) (.lst [(.call "_law_measure" false [(.bin .Sub (.bin .Mult (.con (.int 7)) (.var 5)) (.con (.int 1))), (.con (.int 7))])]) (.lst [])))) [some (.c 0), some (.p (T ps)), some (.c S.length), some (.p (.int i)), x4, some (.p (.int (own ps i))), x6, x7, x8, x9, x10, x11, x12, x13, x14] St2 =
      .nx [some (.c 0), some (.p (T ps)), some (.c S.length), some (.p (.int i)), x4, some (.p (.int (own ps i))), some (.p (.lst hs)), x7, x8, x9, x10, x11, x12, x13, x14] St2 := by
    refine ⟨hts (own ps i), hts_ms ob.1 ob.2, ?_⟩
    by_cases hp : 0 < own ps i
    · have e4 := s_measure7 (k := k + 6) (S := St2) hp
      simp only [run] at e4
      simp [e3, binD_mul m2, binD_mul m7, e4, hp, pures, hts]
      rw [binD_catL (by simp; exact size1000 (by decide))]
      simp
    · simp [e3, binD_mul m2, hp, pures, hts]
      rw [binD_catL (by simp; exact size1000 (by decide))]
      simp
  obtain ⟨hs, hms, st4⟩ := key
  have st5 : ∃ y4 y7 y8 y9 y10 S', W S (xs ++ [.int (own ps i)]) S' ∧ evS (callF tb.tab 600 (k + 8)) 600 (.for (.name 7) .seq [(.var 6)] inner) [some (.c 0), some (.p (T ps)), some (.c S.length), some (.p (.int i)), x4, some (.p (.int (own ps i))), some (.p (.lst hs)), x7, x8, x9, x10, x11, x12, x13, x14] St2 =
      .nx [some (.c 0), some (.p (T ps)), some (.c S.length), some (.p (.int i)), y4, some (.p (.int (own ps i))), some (.p (.lst hs)), y7, y8, y9, y10, x11, x12, x13, x14] S' := by
    rw [evS_for (vs := [.p (.lst hs)]) (S1 := St2) (ds := hs) (W := []) (by simp) rfl]
    generalize hr : forL _ _ _ _ _ _ = res
    obtain ⟨ρ', S', rfl, hW, y4, y7, y8, y9, y10, rfl⟩ := all_of hr (fun _ ρ S' => W S (xs ++ [.int (own ps i)]) S' ∧ ∃ y4 y7 y8 y9 y10, ρ = [some (.c 0), some (.p (T ps)), some (.c S.length), some (.p (.int i)), y4, some (.p (.int (own ps i))), some (.p (.lst hs)), y7, y8, y9, y10, x11, x12, x13, x14])
      ⟨w2, _, _, _, _, _, rfl⟩ (fun _ _ _ _ => rfl) (fun j hj ρ S1 hI => by
        obtain ⟨hW, y4, y7, y8, y9, y10, rfl⟩ := hI
        obtain ⟨a, b, hd, m⟩ := hms hs[j] (List.getElem_mem hj)
        rw [hd]
        obtain ⟨z4, z8, z9, z10, S2, u, e⟩ := inner_ok (k := k) (S := S1) P hi m (hW.has hS) (n0 := S.length) (x4 := y4) (x6 := some (.p (.lst hs))) (x8 := y8) (x9 := y9) (x10 := y10) (x11 := x11) (x12 := x12) (x13 := x13) (x14 := x14)
        exact ⟨_, _, S2, rfl, .inl e, hW.up hS u, _, _, _, _, _, rfl⟩)
    exact ⟨_, _, _, _, _, _, hW, rfl⟩
  obtain ⟨y4, y7, y8, y9, y10, S', hW, st5⟩ := st5
  exact ⟨y4, some (.p (.int (own ps i))), some (.p (.lst hs)), y7, y8, y9, y10, x11, x12, x13, x14, S', hW, by simp only [outer, evB_cons, evB_nil, st1, st2, st3, st4, st5, SR.seq_nx]⟩
theorem LT_ok {ps : List Int} (P : Prof ps) : okD 2 (LT ps) = true := by
  have hh := P.hi
  have := List.length_filter_le (fun i => decide (own ps i = mn ps)) (List.range ps.length)
  simp only [List.length_range] at this
  simp [LT, okD]
  omega
theorem s_right {ps : List Int} (P : Prof ps) (hS : Has S) : ∃ S', Up S S' ∧ run (k + 9) "_law_right" [.c 0, .p (T ps)] S = .ok (.p (.bl true)) S' := by
  have hl := P.lo
  have hh := P.hi
  have st2 : ∃ ρ S', W S ((List.range ps.length).map fun i => .int (own ps i)) S' ∧ (∃ y3 y4 y5 y6 y7 y8 y9 y10 y11 y12 y13 y14, ρ = [some (.c 0), some (.p (T ps)), some (.c S.length), y3, y4, y5, y6, y7, y8, y9, y10, y11, y12, y13, y14]) ∧
      evS (callF tb.tab 600 (k + 8)) 600 (.for (.name 3) .rng [(.bi .len [(.var 1)])] outer) [some (.c 0), some (.p (T ps)), some (.c S.length), none, none, none, none, none, none, none, none, none, none, none, none] (S ++ [.lst []]) = .nx ρ S' := by
    rw [evS_for (vs := [.p (.int (ps.length : Int))]) (S1 := S ++ [.lst []]) (ds := (List.range ps.length).map fun m => D.int (m : Nat)) (W := []) (by simp [ders, biF, biLen]) (items_rng (by omega))]
    generalize hr : forL _ _ _ _ _ _ = res
    obtain ⟨ρ', S', rfl, _, hW, hρ⟩ := all_of hr (fun j ρ S' => j ≤ ps.length ∧ W S ((List.range j).map fun i => .int (own ps i)) S' ∧ ∃ y3 y4 y5 y6 y7 y8 y9 y10 y11 y12 y13 y14, ρ = [some (.c 0), some (.p (T ps)), some (.c S.length), y3, y4, y5, y6, y7, y8, y9, y10, y11, y12, y13, y14])
      (by
        refine ⟨Nat.zero_le _, ?_, _, _, _, _, _, _, _, _, _, _, _, _, rfl⟩
        obtain ⟨a, b, ok, e⟩ := Up.refl hS
        exact ⟨a, b, ok, by rw [← e]; rfl⟩) (fun _ _ _ _ => rfl) (fun j hj ρ S1 hI => by
        obtain ⟨hj0, hW, y3, y4, y5, y6, y7, y8, y9, y10, y11, y12, y13, y14, rfl⟩ := hI
        have hj' : j < ps.length := by simpa using hj
        obtain ⟨z4, z5, z6, z7, z8, z9, z10, z11, z12, z13, z14, S2, hW2, e⟩ := outer_ok (k := k) P hj' hS hW (by simp; omega) (x4 := y4) (x5 := y5) (x6 := y6) (x7 := y7) (x8 := y8) (x9 := y9) (x10 := y10) (x11 := y11) (x12 := y12) (x13 := y13) (x14 := y14)
        rw [show ((List.range ps.length).map fun m => D.int (m : Nat))[j] = .int (j : Nat) by simp]
        exact ⟨_, _, S2, rfl, .inl e, hj', by rw [List.range_succ, List.map_append]; exact hW2, _, _, _, _, _, _, _, _, _, _, _, _, rfl⟩)
    rw [List.length_map, List.length_range] at hW
    exact ⟨_, _, hW, hρ, rfl⟩
  obtain ⟨ρ, S', hW, ⟨y3, y4, y5, y6, y7, y8, y9, y10, y11, y12, y13, y14, rfl⟩, st2⟩ := st2
  have hg := hW.get
  have hmn := mn_is P
  refine ⟨_, hW.take, ?_⟩
  rw [run, callF_succ (d := d__law_right.df) (by kernel_rfl) rfl]
  have st1 : evS (callF tb.tab 600 (k + 8)) 600 (.new 2 (.lst [])) [some (.c 0), some (.p (T ps)), none, none, none, none, none, none, none, none, none, none, none, none, none] S = .nx [some (.c 0), some (.p (T ps)), some (.c S.length), none, none, none, none, none, none, none, none, none, none, none, none] (S ++ [.lst []]) := by
    simp [pures, frsh]
  have st3 : evS (callF tb.tab 600 (k + 8)) 600 (.asg (.name 11) (.bi .min [(.var 2)])) [some (.c 0), some (.p (T ps)), some (.c S.length), y3, y4, y5, y6, y7, y8, y9, y10, y11, y12, y13, y14] S' = .nx [some (.c 0), some (.p (T ps)), some (.c S.length), y3, y4, y5, y6, y7, y8, y9, y10, some (.p (.int (mn ps))), y12, y13, y14] S' := by
    simp [ders, der, hg, biF, biMin, intsOf_map, hmn]
  have e1 := s_least_tower (k := k + 4) (S := S') P
  simp only [run] at e1
  have e2 : callF tb.tab 600 (k + 8) "_law_like" [.p (LT ps), .p (LT ps)] S' = .ok (.p (.bl true)) S' := like_same lk_sort lk_like (n := 2) (by omega) (LT_ok P)
  have st4 : evS (callF tb.tab 600 (k + 8)) 600 (.ret (.call "_law_like" false [(.call "least_tower" false [(.var 1)]), (.tup [(.tup [(.var 11), (.con (.int 1))]), (.bi .tuple [(.lc (.var 3) (.tup [(.name 3), (.name 5)]) .enum [(.var 2)] [(.cmp .Eq (.var 5) (.var 11))] [12, 3, 5])])])])) [some (.c 0), some (.p (T ps)), some (.c S.length), y3, y4, y5, y6, y7, y8, y9, y10, some (.p (.int (mn ps))), y12, y13, y14] S' = .ret (.p (.bl true)) S' := by
    simp [e1, pures]
    rw [lc_pure (vs := [.c S.length]) (ds := (List.range ps.length).map fun j => D.tup [.int (j : Nat), .int (own ps j)]) (W := [(S.length, .lst ((List.range ps.length).map fun i => .int (own ps i)))]) (g := fun d => match d with
      | .tup [.int j, .int x] => if x = mn ps then some (D.int j) else none
      | _ => none) (by simp) (by simp only [itemsOf, der, hg, watchOf, Option.bind_some, enumD_range]) (by simp [watched, hg]) (fun d hd => ?_) (by rw [List.length_map, List.length_range]; exact size1000 (by omega))]
    rotate_left
    · obtain ⟨j, _, rfl⟩ := List.mem_map.mp hd
      by_cases h : own ps j = mn ps <;> simp [lcTurn, eqD_int, h]
    have : (((List.range ps.length).map fun j => D.tup [.int (j : Nat), .int (own ps j)]).filterMap fun d => match d with
        | .tup [.int j, .int x] => if x = mn ps then some (D.int j) else none
        | _ => none) = ((List.range ps.length).filter fun i => decide (own ps i = mn ps)).map fun i => D.int (i : Nat) := by
      induction List.range ps.length with
      | nil => rfl
      | cons x xs ih =>
        by_cases h : own ps x = mn ps <;> simp [List.filter_cons, h] at ih ⊢ <;> exact ih
    rw [this]
    simp [ders, biF, biTuple]
    show (callF tb.tab 600 (k + 8) "_law_like" [.p (LT ps), .p (LT ps)] S').st _ _ = _
    rw [e2]
    rfl
  have hb : evB (callF tb.tab 600 (k + 8)) 600 d__law_right.df.body [some (.c 0), some (.p (T ps)), none, none, none, none, none, none, none, none, none, none, none, none, none] S = .ret (.p (.bl true)) S' := by
    show evB (callF tb.tab 600 (k + 8)) 600 [.new 2 (.lst []), .for (.name 3) .rng [(.bi .len [(.var 1)])] outer, .asg (.name 11) (.bi .min [(.var 2)]), .ret (.call "_law_like" false [(.call "least_tower" false [(.var 1)]), (.tup [(.tup [(.var 11), (.con (.int 1))]), (.bi .tuple [(.lc (.var 3) (.tup [(.name 3), (.name 5)]) .enum [(.var 2)] [(.cmp .Eq (.var 5) (.var 11))] [12, 3, 5])])])])] _ S = _
    simp only [evB_cons, evB_nil, st1, st2, st3, st4, SR.seq_nx, SR.seq_ret]
  show finishR false S.length (evB (callF tb.tab 600 (k + 8)) 600 d__law_right.df.body [some (.c 0), some (.p (T ps)), none, none, none, none, none, none, none, none, none, none, none, none, none] S) = _
  rw [hb]
  rfl
end Lk58

set_option Elab.async false
set_option linter.all false
set_option maxRecDepth 100000
set_option maxHeartbeats 4000000
namespace Lk58
open PySem DV
variable {k : Nat} {S : Store}
theorem L_self {ps : List Int} (i : Nat) : L ps i i = ng ps i := by unfold L; simp
theorem L_prev {ps : List Int} {i j : Nat} (h : j + 1 = i) : L ps j i = ng ps i := by
  subst h
  unfold L
  have : ((j + 1 : Nat) : Int) - j = 1 := by omega
  rw [this]
  omega
/-- below the tower there is a place that hides the far end of the first hidden piece -/
theorem gb_far {ps : List Int} (P : Prof ps) {i : Nat} (hi : i < ps.length) (ho : own ps i ≠ 0) {j : Nat} (hj : j + 1 < ps.length) (hL : L ps j i = mx ps i) : (List.range ps.length).any (gb ps i (ng ps i + own ps i - 1) j 1 (if i ≤ j then 1 else 0)) = true := by
  rw [List.any_eq_true]
  have e0 : ng ps i + own ps i - 1 = mx ps i - 1 := by unfold own; omega
  have hne : L ps j i ≠ ng ps i := fun z => ho (by unfold own; omega)
  rw [e0]
  have hL' := hL
  unfold L at hL'
  by_cases c : i ≤ j
  · rw [if_pos c]
    have hij : i ≠ j := fun z => hne (by rw [z]; exact L_self j)
    refine ⟨j, List.mem_range.mpr (by omega), ?_⟩
    simp only [gb, gb']
    have e1 : ab ((j : Int) * (1 : Nat) - ((j : Int) * (1 : Nat) + (1 : Nat))) = 1 := by unfold ab; rw [if_pos (by omega)]; omega
    have e2 : ab ((j : Int) * (1 : Nat) - (i : Int) * (1 : Nat)) = (j : Int) - i := by unfold ab; rw [if_neg (by omega)]; omega
    rw [if_neg (by omega), if_pos (by omega), e1, e2]
    simp only [Bool.and_eq_true, decide_eq_true_eq]
    refine ⟨⟨by omega, by omega⟩, ?_⟩
    push_cast
    grind
  · rw [if_neg c]
    have hij : j + 1 ≠ i := fun z => hne (L_prev z)
    refine ⟨j + 1, List.mem_range.mpr (by omega), ?_⟩
    simp only [gb, gb']
    have e1 : ab (((j + 1 : Nat) : Int) * (1 : Nat) - ((j : Int) * (1 : Nat) + (0 : Nat))) = 1 := by unfold ab; rw [if_neg (by omega)]; omega
    have e2 : ab (((j + 1 : Nat) : Int) * (1 : Nat) - (i : Int) * (1 : Nat)) = (i : Int) - (j + 1) := by unfold ab; rw [if_pos (by omega)]; omega
    rw [if_pos (by omega), if_neg (by omega), e1, e2]
    simp only [Bool.and_eq_true, decide_eq_true_eq]
    refine ⟨⟨by omega, by omega⟩, ?_⟩
    push_cast
    grind
theorem s_points (hS : Has S) : ∃ S', Up S S' ∧ run (k + 10) "_law_points_right" [.c 0] S = .ok (.p (.bl true)) S' := by
  obtain ⟨x, S1, hx, u1, e1⟩ := s_some (wf := 600) (k := k + 7) lk_roll lk_some (xs := [.int 2, .int 6]) (by simp) (by simp) hS
  obtain ⟨t, rfl, ht0, ht1⟩ : ∃ t, x = .int t ∧ 0 ≤ t ∧ t ≤ 1000000 := by
    simp only [List.mem_cons, List.not_mem_nil, or_false] at hx
    rcases hx with rfl | rfl
    · exact ⟨_, rfl, by omega, by omega⟩
    · exact ⟨_, rfl, by omega, by omega⟩
  obtain ⟨ps, S2, P, u2, e2⟩ := s_draw (k := k + 7) (most := 7) (top := t) (by omega) (by omega) ht0 ht1 (u1.has hS)
  have h2 := u2.has (u1.has hS)
  obtain ⟨v, S3, v0, v1, u3, e3⟩ := s_roll (wf := 600) (k := k + 8) lk_roll (m := (ps.length : Int)) (by have := P.lo; omega) (by have := P.hi; omega) h2
  obtain ⟨i, rfl⟩ := Int.eq_ofNat_of_zero_le v0
  have hi : i < ps.length := by omega
  have u := (u1.trans u2).trans u3
  have e4 := s_tower_height (k := k + 4) (S := S3) P hi
  have gi := at_ng hi
  have ob := own_bd P hi
  have hmx := (mx_is P i).2.2
  have e5 := s_sees (k := k + 7) (S := S3) P hi (top := ng ps i + own ps i) (fun j r m hj hr => no_gb (fun j hj => by have := hmx j hj; unfold own; omega) hi hj hr)
  refine ⟨S3, u, ?_⟩
  rw [run, callF_succ (d := d__law_points_right.df) (by kernel_rfl) rfl]
  simp only [run] at e2 e4 e5
  by_cases ho : own ps i = 0
  · rw [ho] at e4 e5
    simp [d__law_points_right, Dn.df, e1, pures, e2, ders, biF, biLen, e3, e4, atI0, gi, e5, eqD_int, u.take]
    simp at e5
    simp [e5, eqD_int, u.take]
  · have ms := ms1 (o := own ps i - 1) (by omega) (by omega)
    have e6 := s_hidden_piece (k := k + 3) (S := S3) P hi ms
    have hn : pc1 (pcs ps i (own ps i - 1) 1) ≠ .non := by
      have := pcs_nil P (i := i) (a := own ps i - 1) (b := 1) (by omega)
      intro z
      rw [z] at this
      simp at this
      omega
    obtain ⟨j, r, hp⟩ : ∃ j r, pcs ps i (own ps i - 1) 1 = j :: r := by
      cases hp : pcs ps i (own ps i - 1) 1 with
      | nil => rw [hp] at hn; exact absurd rfl hn
      | cons j r => exact ⟨j, r, rfl⟩
    have hjm : j ∈ pcs ps i (own ps i - 1) 1 := by rw [hp]; exact List.mem_cons_self
    unfold pcs at hjm
    obtain ⟨hj1, hj2⟩ := List.mem_filter.mp hjm
    have hj1 := List.mem_range.mp hj1
    rw [bl_iff] at hj2
    have hj2 := of_decide_eq_true hj2
    have hjL := hmx j (by omega)
    have hLm : L ps j i = mx ps i := by unfold own at hj2; omega
    rw [hp] at e6
    have e7 := s_goes_below (k := k + 8) (S := S3) P (i := i) (j := j) (q := 1) (r := if i ≤ j then 1 else 0) hi (by omega) (by omega) (by omega) (by split <;> omega) (top := ng ps i + own ps i - 1)
    rw [gb_far P hi ho (by omega) hLm] at e7
    simp only [run] at e6 e7
    have e6' : callF tb.tab 600 (k + 9) "hidden_piece" [.p (T ps), .p (.int i), .p (M (own ps i - 1) 1)] S3 = .ok (.p (.int j)) S3 := e6
    have e7' : callF tb.tab 600 (k + 9) "_law_goes_below" [.p (T ps), .p (.int i), .p (.int (ng ps i + own ps i - 1)), .p (.int 1), .p (.int j), .p (.int (if (i : Int) ≤ j then 1 else 0)), .p (.int 1)] S3 = .ok (.p (.bl true)) S3 := by
      refine Eq.trans ?_ e7
      by_cases c : i ≤ j
      · rw [if_pos c, if_pos (by omega)]; rfl
      · rw [if_neg c, if_neg (by omega)]; rfl
    by_cases c : (i : Int) ≤ j
    · rw [if_pos c] at e7'
      simp [d__law_points_right, Dn.df, e1, pures, e2, ders, biF, biLen, e3, e4, atI0, gi, e5, eqD_int, u.take, ho, e6', c, e7']
    · rw [if_neg c] at e7'
      simp [d__law_points_right, Dn.df, e1, pures, e2, ders, biF, biLen, e3, e4, atI0, gi, e5, eqD_int, u.take, ho, e6', c, e7']

/-! the great ones -/
theorem binD_rep {xs : List D} {j : Int} (h0 : 0 ≤ j) (h1 : j ≤ 1000) (h2 : xs.length ≤ 1000) : binD .Mult (.tup xs) (.int j) = some (.tup (List.replicate j.toNat xs).flatten) := by
  unfold binD
  by_cases c : xs ≠ [] ∧ 2 ≤ j ∧ j ≤ 1000 ∧ xs.length ≤ 1000
  · simp only [c, and_self, if_true, ne_eq, not_false_eq_true]
  · simp only [c, if_false]
    rw [if_pos]
    refine ⟨by omega, by omega, ?_⟩
    by_cases hx : xs = []
    · exact .inr hx
    · left
      have : ¬ 2 ≤ j := fun z => c ⟨hx, z, h1, h2⟩
      omega
theorem flat1 {α : Type} (x : α) : ∀ n : Nat, (List.replicate n [x]).flatten = List.replicate n x
  | 0 => rfl
  | n + 1 => by rw [List.replicate_succ, List.flatten_cons, flat1 x n]; rfl
theorem own_eq {ps : List Int} (P : Prof ps) {i : Nat} {m : Int} (h1 : ∃ j, j + 1 < ps.length ∧ L ps j i = m) (h2 : ∀ j, j + 1 < ps.length → L ps j i ≤ m) : own ps i = m - ng ps i := by
  obtain ⟨_, ⟨j, hj, e⟩, h⟩ := mx_is P i
  obtain ⟨j', hj', e'⟩ := h1
  have := h j' hj'
  have := h2 j hj
  unfold own
  omega
def bowl : List Int := (List.range 60).map fun a => ((a : Nat) - 30 : Int) * ((a : Nat) - 30)
def hill : List Int := bowl.map fun h => -h
def ends : List Int := -1000000 :: 1000000 :: List.replicate 58 0
def stairs (st : Nat) (low : Int) : List Int := List.replicate st 0 ++ List.replicate (60 - st) low
theorem p_bowl : Prof bowl := ⟨by decide +kernel, by decide +kernel, by decide +kernel⟩
theorem p_hill : Prof hill := ⟨by decide +kernel, by decide +kernel, by decide +kernel⟩
theorem p_ends : Prof ends := ⟨by decide +kernel, by decide +kernel, by decide +kernel⟩
theorem o_bowl : ∀ a, a < 60 → own bowl a = 0 := by decide +kernel
theorem m_bowl : mn bowl = 0 := by decide +kernel
theorem o_hill : own hill 30 = 870 ∧ own hill 0 = 3422 ∧ own hill 59 = 3422 := by decide +kernel
theorem o_ends : own ends 59 = 117000000 := by decide +kernel
theorem stairs_len {st : Nat} (h : st ≤ 60) {low : Int} : (stairs st low).length = 60 := by simp [stairs]; omega
theorem stairs_g {st : Nat} (h : st ≤ 60) {low : Int} {j : Nat} (hj : j < 60) : ng (stairs st low) j = if j < st then 0 else low := by
  unfold ng stairs
  by_cases c : j < st
  · rw [List.getElem?_append_left (by simpa using c), if_pos c]
    simp [c]
  · rw [List.getElem?_append_right (by simp; omega), if_neg c, List.length_replicate, List.getElem?_replicate, if_pos (by omega)]
    rfl
theorem p_stairs {st : Nat} (h1 : 1 ≤ st) (h2 : st ≤ 58) {low : Int} (h0 : 0 ≤ low) (h3 : low ≤ 999) : Prof (stairs st low) := by
  refine ⟨by rw [stairs_len (by omega)]; omega, by rw [stairs_len (by omega)]; omega, fun x hx => ?_⟩
  unfold stairs at hx
  rcases List.mem_append.mp hx with hx | hx
  · have := (List.mem_replicate.mp hx).2; omega
  · have := (List.mem_replicate.mp hx).2; omega
theorem L_stairs {st : Nat} (h1 : 1 ≤ st) (h2 : st ≤ 58) {low : Int} {j i : Nat} (hj : j + 1 < 60) : L (stairs st low) j i = if j + 1 < st then 0 else if j + 1 = st then low * ((i : Int) - j) else low := by
  unfold L
  rw [stairs_g (by omega) (by omega), stairs_g (by omega) (by omega)]
  by_cases c : j + 1 < st
  · rw [if_pos (by omega), if_pos c, if_pos c]; omega
  · rw [if_neg c]
    by_cases c2 : j + 1 = st
    · rw [if_pos (by omega), if_neg c, if_pos c2]; simp
    · rw [if_neg (by omega), if_neg c, if_neg c2]; simp
theorem o_stairs0 {st : Nat} (h1 : 1 ≤ st) (h2 : st ≤ 58) {low : Int} (h0 : 0 ≤ low) (h3 : low ≤ 999) : own (stairs st low) 0 = low := by
  have P := p_stairs h1 h2 h0 h3
  rw [own_eq P (m := low) ⟨st, by rw [stairs_len (by omega)]; omega, by rw [L_stairs h1 h2 (by omega), if_neg (by omega), if_neg (by omega)]⟩ (fun j hj => ?_), stairs_g (by omega) (by omega), if_pos (by omega)]
  · omega
  · rw [stairs_len (by omega)] at hj
    rw [L_stairs h1 h2 hj]
    split
    · exact h0
    · split
      · have := Int.mul_nonneg h0 (by omega : (0 : Int) ≤ j)
        have e : low * (((0 : Nat) : Int) - j) = -(low * j) := by grind
        rw [e]; omega
      · omega
theorem o_stairs59 {st : Nat} (h1 : 1 ≤ st) (h2 : st ≤ 58) {low : Int} (h0 : 0 ≤ low) (h3 : low ≤ 999) : own (stairs st low) 59 = (59 - st) * low := by
  have P := p_stairs h1 h2 h0 h3
  have hm : low ≤ low * (60 - st) := by
    have := Int.mul_le_mul_of_nonneg_left (by omega : (1 : Int) ≤ 60 - st) h0
    omega
  rw [own_eq P (m := low * (60 - st)) ⟨st - 1, by rw [stairs_len (by omega)]; omega, by
    rw [L_stairs h1 h2 (by omega), if_neg (by omega), if_pos (by omega)]
    congr 1
    omega⟩ (fun j hj => ?_), stairs_g (by omega) (by omega), if_neg (by omega)]
  · grind
  · rw [stairs_len (by omega)] at hj
    rw [L_stairs h1 h2 hj]
    split
    · omega
    · split
      · have e : (((59 : Nat) : Int) - j) = 60 - st := by omega
        rw [e]
        exact Int.le_refl _
      · exact hm
theorem o_stairsS {st : Nat} (h1 : 1 ≤ st) (h2 : st ≤ 58) {low : Int} (h0 : 0 ≤ low) (h3 : low ≤ 999) : own (stairs st low) st = 0 := by
  have P := p_stairs h1 h2 h0 h3
  rw [own_eq P (m := low) ⟨st, by rw [stairs_len (by omega)]; omega, by rw [L_stairs h1 h2 (by omega), if_neg (by omega), if_neg (by omega)]⟩ (fun j hj => ?_), stairs_g (by omega) (by omega), if_neg (by omega)]
  · omega
  · rw [stairs_len (by omega)] at hj
    rw [L_stairs h1 h2 hj]
    split
    · exact h0
    · split
      · have e : ((st : Int) - j) = 1 := by omega
        rw [e]; omega
      · omega
theorem o_stairsP {st : Nat} (h1 : 1 ≤ st) (h2 : st ≤ 58) {low : Int} (h0 : 0 ≤ low) (h3 : low ≤ 999) : own (stairs st low) (st - 1) = low := by
  have P := p_stairs h1 h2 h0 h3
  rw [own_eq P (m := low) ⟨st, by rw [stairs_len (by omega)]; omega, by rw [L_stairs h1 h2 (by omega), if_neg (by omega), if_neg (by omega)]⟩ (fun j hj => ?_), stairs_g (by omega) (by omega), if_pos (by omega)]
  · omega
  · rw [stairs_len (by omega)] at hj
    rw [L_stairs h1 h2 hj]
    split
    · exact h0
    · split
      · have e : (((st - 1 : Nat) : Int) - j) = 0 := by omega
        rw [e]; omega
      · omega
end Lk58

set_option Elab.async false
set_option linter.all false
set_option maxRecDepth 100000
set_option maxHeartbeats 4000000
namespace Lk58
open PySem DV
variable {k : Nat} {S : Store}
theorem th_of {ps : List Int} (P : Prof ps) {i : Nat} (hi : i < ps.length) {ii o : Int} (hii : ii = (i : Int)) (ho : own ps i = o) : callF tb.tab 600 (k + 9) "tower_height" [.p (T ps), .p (.int ii)] S = .ok (.p (M o 1)) S := by
  have := s_tower_height (k := k + 4) (S := S) P hi
  rw [ho] at this
  rw [hii]
  exact this
theorem s_great (hS : Has S) : ∃ S', Up S S' ∧ run (k + 10) "_law_great_right" [.c 0] S = .ok (.p (.bl true)) S' := by
  obtain ⟨v, S1, v0, v1, u1, e1⟩ := s_roll (wf := 600) (k := k + 8) lk_roll (m := 60) (by omega) (by omega) hS
  obtain ⟨a, rfl⟩ := Int.eq_ofNat_of_zero_le v0
  have h1 := u1.has hS
  obtain ⟨w, S2, w0, w1, u2, e2⟩ := s_roll (wf := 600) (k := k + 8) lk_roll (m := 58) (by omega) (by omega) h1
  obtain ⟨s, rfl⟩ := Int.eq_ofNat_of_zero_le w0
  have h2 := u2.has h1
  obtain ⟨low, S3, l0, l1, u3, e3⟩ := s_roll (wf := 600) (k := k + 8) lk_roll (m := 1000) (by omega) (by omega) h2
  have h3 := u3.has h2
  obtain ⟨ps, S4, P, u4, e4⟩ := s_draw (k := k + 7) (most := 12) (top := 1000000) (by omega) (by omega) (by omega) (by omega) h3
  have h4 := u4.has h3
  obtain ⟨S5, u5, e5⟩ := s_right (k := k) P h4
  have u : Up S S5 := (((u1.trans u2).trans u3).trans u4).trans u5
  simp only [run] at e4 e5
  have t1 : 1 ≤ s + 1 := by omega
  have t2 : s + 1 ≤ 58 := by omega
  have PS := p_stairs t1 t2 l0 (by omega : low ≤ 999)
  have sl : (stairs (s + 1) low).length = 60 := stairs_len (by omega)
  refine ⟨S5, u, ?_⟩
  have e : ∃ L : List D, evB (callF tb.tab 600 (k + 9)) 600 d__law_great_right.df.body [some (.c 0), none, none, none, none, none, none, none, none, none, none, none] S = .ret (.p (.bl true)) S5 := by
    refine ⟨[], ?_⟩
    refine (seqE (ρ' := [some (.c 0), none, some (.p (T bowl)), none, none, none, none, none, none, none, none, none]) (S' := S) ?_).trans ?_
    · simp
      rw [lc_pure (vs := [.p (.int 60)]) (ds := (List.range 60).map fun j => D.int (j : Nat)) (W := []) (g := fun d => match d with
        | .int j => some (.int ((j - 30) * (j - 30)))
        | _ => none) (by simp) (items_rng (n := 60) (by decide)) rfl (fun d hd => ?_) (by rw [List.length_map, List.length_range]; exact size1000 (by decide))]
      · have hb : (((List.range 60).map fun j => D.int (j : Nat)).filterMap fun d => match d with
          | .int j => some (D.int ((j - 30) * (j - 30)))
          | _ => none) = bowl.map D.int := by
          unfold bowl
          rw [List.map_map]
          simp [List.filterMap_map, Function.comp_def]
        rw [hb]
        simp [ders, biF, biTuple]
      · obtain ⟨j, hj, rfl⟩ := List.mem_map.mp hd
        have hj := List.mem_range.mp hj
        have hm : mulOK ((j : Int) - 30) ((j : Int) - 30) := mulS (small_of (by omega) (by omega))
        simp [lcTurn, binD_mul hm]
    refine (seqE (ρ' := [some (.c 0), some (.p (.int a)), some (.p (T bowl)), some (.p (T hill)), none, none, none, none, none, none, none, none]) (S' := S1) ?_).trans ?_
    · simp
      rw [lc_pure (vs := [.p (T bowl)]) (ds := bowl.map D.int) (W := []) (g := fun d => match d with
        | .int j => some (.int (-j))
        | _ => none) (by simp) rfl rfl (fun d hd => ?_) (by rw [List.length_map]; exact size1000 (by decide))]
      · have hb : ((bowl.map D.int).filterMap fun d => match d with
          | .int j => some (D.int (-j))
          | _ => none) = hill.map D.int := by
          unfold hill
          rw [List.map_map]
          simp [List.filterMap_map, Function.comp_def]
        rw [hb]
        simp [ders, biF, biTuple, e1]
      · obtain ⟨j, hj, rfl⟩ := List.mem_map.mp hd
        simp [lcTurn]
    refine (seqE (ρ' := [some (.c 0), some (.p (.int a)), some (.p (T bowl)), some (.p (T hill)), some (.p (.lst [M 0 1, M 0 1, M 870 1, M 3422 1, M 3422 1])), none, none, none, none, none, none, none]) (S' := S1) ?_).trans ?_
    · have q1 := th_of (k := k) (S := S1) p_bowl (i := a) (ii := a) (by rw [show bowl.length = 60 from by decide +kernel]; omega) rfl (o_bowl a (by omega))
      have q2 := s_least_tower (k := k + 5) (S := S1) p_bowl
      have q3 := th_of (k := k) (S := S1) p_hill (i := 30) (ii := 30) (by decide +kernel) rfl o_hill.1
      have q4 := th_of (k := k) (S := S1) p_hill (i := 0) (ii := 0) (by decide +kernel) rfl o_hill.2.1
      have q5 := th_of (k := k) (S := S1) p_hill (i := 59) (ii := 59) (by decide +kernel) rfl o_hill.2.2
      simp only [run] at q2
      simp [q1, q2, q3, q4, q5, LT, atI0, m_bowl, pures]
    refine (seqE (ρ' := [some (.c 0), some (.p (.int a)), some (.p (T bowl)), some (.p (T hill)), some (.p (.lst [M 0 1, M 0 1, M 870 1, M 3422 1, M 3422 1])), some (.p (.lst [M 0 1, M 0 1, M 870 1, M 3422 1, M 3422 1])), none, none, none, none, none, none]) (S' := S1) ?_).trans ?_
    · simp [pures, binD_mul (show mulOK 58 59 by decide), binD_mul (show mulOK 59 59 by decide)]
    refine (seqE (ρ' := [some (.c 0), some (.p (.int a)), some (.p (T bowl)), some (.p (T hill)), some (.p (.lst [M 0 1, M 0 1, M 870 1, M 3422 1, M 3422 1])), some (.p (.lst [M 0 1, M 0 1, M 870 1, M 3422 1, M 3422 1])), none, none, none, none, none, none]) (S' := S1) ?_).trans ?_
    · have q1 : callF tb.tab 600 (k + 9) "_law_like" [.p (.lst [M 0 1, M 0 1, M 870 1, M 3422 1, M 3422 1]), .p (.lst [M 0 1, M 0 1, M 870 1, M 3422 1, M 3422 1])] S1 = .ok (.p (.bl true)) S1 := like_same lk_sort lk_like (n := 2) (by omega) (by decide +kernel)
      simp [q1]
    generalize some (Sv.p (D.lst [M 0 1, M 0 1, M 870 1, M 3422 1, M 3422 1])) = x5
    refine (seqE (ρ' := [some (.c 0), some (.p (.int a)), some (.p (T bowl)), some (.p (T hill)), x5, x5, some (.p (.int ((s + 1 : Nat) : Int))), some (.p (.int low)), none, none, none, none]) (S' := S3) ?_).trans ?_
    · simp [e2, e3]
      omega
    refine (seqE (ρ' := [some (.c 0), some (.p (.int a)), some (.p (T bowl)), some (.p (T hill)), x5, x5, some (.p (.int ((s + 1 : Nat) : Int))), some (.p (.int low)), some (.p (T (stairs (s + 1) low))), none, none, none]) (S' := S3) ?_).trans ?_
    · have q1 := binD_rep (xs := [.int 0]) (j := ((s + 1 : Nat) : Int)) (by omega) (by omega) (by simp)
      have q2 := binD_rep (xs := [.int low]) (j := 60 - ((s + 1 : Nat) : Int)) (by omega) (by omega) (by simp)
      rw [flat1] at q1 q2
      have q3 : binD .Add (.tup (List.replicate ((s + 1 : Nat) : Int).toNat (D.int 0))) (.tup (List.replicate (60 - ((s + 1 : Nat) : Int)).toNat (D.int low))) = some (T (stairs (s + 1) low)) := by
        rw [binD_cat (by simp only [List.length_replicate]; exact size1000 (by omega))]
        unfold T stairs
        rw [List.map_append, List.map_replicate, List.map_replicate, show (((s + 1 : Nat) : Int)).toNat = s + 1 by omega, show (60 - ((s + 1 : Nat) : Int)).toNat = 60 - (s + 1) by omega]
      simp only [evS_asg, evE_bin, evE_tup, evL_cons, evL_nil, evE_con, evE_var, lget_zero, lget_succ, R.of_some, R.bind_ok, pures_p, pures_nil, Option.map_some, der_p, binD_sub, q1, q2, q3, R.st_ok, bindT_name, SR.of_some]
      rfl
    refine (seqE (ρ' := [some (.c 0), some (.p (.int a)), some (.p (T bowl)), some (.p (T hill)), some (.p (.lst [M low 1, M ((59 - ((s + 1 : Nat) : Int)) * low) 1, M 0 1, M low 1])), x5, some (.p (.int ((s + 1 : Nat) : Int))), some (.p (.int low)), some (.p (T (stairs (s + 1) low))), none, none, none]) (S' := S3) ?_).trans ?_
    · have q1 := th_of (k := k) (S := S3) PS (i := 0) (ii := 0) (by rw [sl]; omega) rfl (o_stairs0 t1 t2 l0 (by omega))
      have q2 := th_of (k := k) (S := S3) PS (i := 59) (ii := 59) (by rw [sl]; omega) rfl (o_stairs59 t1 t2 l0 (by omega))
      have q3 := th_of (k := k) (S := S3) PS (i := s + 1) (ii := ((s + 1 : Nat) : Int)) (by rw [sl]; omega) rfl (o_stairsS t1 t2 l0 (by omega))
      have q4 := th_of (k := k) (S := S3) PS (i := s + 1 - 1) (ii := ((s + 1 : Nat) : Int) - 1) (by rw [sl]; omega) (by omega) (o_stairsP t1 t2 l0 (by omega))
      generalize ((s + 1 : Nat) : Int) = st at *
      simp [q1, q2, q3, q4, pures]
    refine (seqE (ρ' := [some (.c 0), some (.p (.int a)), some (.p (T bowl)), some (.p (T hill)), some (.p (.lst [M low 1, M ((59 - ((s + 1 : Nat) : Int)) * low) 1, M 0 1, M low 1])), x5, some (.p (.int ((s + 1 : Nat) : Int))), some (.p (.int low)), some (.p (T (stairs (s + 1) low))), none, none, none]) (S' := S3) ?_).trans ?_
    · have q1 : callF tb.tab 600 (k + 9) "_law_like" [.p (.lst [M low 1, M ((59 - ((s + 1 : Nat) : Int)) * low) 1, M 0 1, M low 1]), .p (.lst [M low 1, M ((59 - ((s + 1 : Nat) : Int)) * low) 1, M 0 1, M low 1])] S3 = .ok (.p (.bl true)) S3 := like_same lk_sort lk_like (n := 2) (by omega) (by simp [okD])
      have q2 : mulOK (59 - ((s + 1 : Nat) : Int)) low := mulS (small_of (by omega) (by omega))
      generalize ((s + 1 : Nat) : Int) = st at *
      simp [q1, pures, binD_mul q2]
    generalize some (Sv.p (D.lst [M low 1, M ((59 - ((s + 1 : Nat) : Int)) * low) 1, M 0 1, M low 1])) = x4
    generalize some (Sv.p (D.int ((s + 1 : Nat) : Int))) = x6
    refine (seqE (ρ' := [some (.c 0), some (.p (.int a)), some (.p (T bowl)), some (.p (T hill)), x4, x5, x6, some (.p (.int low)), some (.p (T (stairs (s + 1) low))), some (.p (T ends)), none, none]) (S' := S3) ?_).trans ?_
    · have q1 := binD_rep (xs := [.int 0]) (j := 58) (by omega) (by omega) (by simp)
      rw [flat1] at q1
      have q3 : binD .Add (.tup [.int (-1000000), .int 1000000]) (.tup (List.replicate (58 : Int).toNat (D.int 0))) = some (T ends) := by
        rw [binD_cat (by simp only [List.length_replicate]; exact size1000 (by decide))]
        unfold T ends
        rfl
      simp only [evS_asg, evE_bin, evE_tup, evL_cons, evL_nil, evE_con, evE_neg, R.of_some, R.bind_ok, pures_p, pures_nil, Option.map_some, der_p, q1, q3, R.st_ok, bindT_name, SR.of_some]
      rfl
    refine (seqE (ρ' := [some (.c 0), some (.p (.int a)), some (.p (T bowl)), some (.p (T hill)), some (.p (.lst [M 117000000 1, .bl false, .bl true])), x5, x6, some (.p (.int low)), some (.p (T (stairs (s + 1) low))), some (.p (T ends)), none, none]) (S' := S3) ?_).trans ?_
    · have q1 := th_of (k := k) (S := S3) p_ends (i := 59) (ii := 59) (by decide +kernel) rfl o_ends
      have q2 := s_sees_all (k := k + 3) (S := S3) p_ends (i := 59) (by decide +kernel) (a := 116999999) (b := 1) ⟨by decide, by decide, by decide, by decide, by simp⟩
      have q3 := s_sees_all (k := k + 3) (S := S3) p_ends (i := 59) (by decide +kernel) (a := 117000001) (b := 1) ⟨by decide, by decide, by decide, by decide, by simp⟩
      rw [o_ends] at q2 q3
      simp only [run] at q2 q3
      have q2' : callF tb.tab 600 (k + 9) "sees_all" [.p (T ends), .p (.int 59), .p (M 116999999 1)] S3 = .ok (.p (.bl false)) S3 := q2
      have q3' : callF tb.tab 600 (k + 9) "sees_all" [.p (T ends), .p (.int 59), .p (M 117000001 1)] S3 = .ok (.p (.bl true)) S3 := q3
      simp [q1, q2', q3', pures]
    refine seqR ?_
    have q1 : callF tb.tab 600 (k + 9) "_law_like" [.p (.lst [M 117000000 1, .bl false, .bl true]), .p (.lst [M 117000000 1, .bl false, .bl true])] S3 = .ok (.p (.bl true)) S3 := like_same lk_sort lk_like (n := 2) (by omega) (by decide +kernel)
    simp [q1, pures, e4, e5]
  obtain ⟨_, e⟩ := e
  have r := run_ret (T := tb.tab) (wf := 600) (k := k + 9) (x := "_law_great_right") (d := d__law_great_right.df) (vs := [.c 0]) (by kernel_rfl) rfl e
  rw [u.take] at r
  exact r

/-! what is written out -/
def som : List Int := [0, 3, 1, 4]
theorem p_som : Prof som := ⟨by decide, by decide, by decide⟩
theorem p_a : Prof [0, 0, 1, 3] := ⟨by decide, by decide, by decide⟩
theorem p_b : Prof [7, 2] := ⟨by decide, by decide, by decide⟩
theorem p_c : Prof [0, 0] := ⟨by decide, by decide, by decide⟩
theorem s_written : run (k + 10) "_law_written_right" [] S = .ok (.p (.bl true)) S := by
  have e : evB (callF tb.tab 600 (k + 9)) 600 d__law_written_right.df.body [none, none, none] S = .ret (.p (.bl true)) S := by
    refine (seqE (ρ' := [some (.p (T som)), none, none]) (S' := S) ?_).trans ?_
    · simp [pures, som]
    refine (seqE (ρ' := [some (.p (T som)), some (.p (.lst [M 5 1, M 0 1, .bl false, .int 0, .tup [M 0 1, .tup [.int 1]]])), none]) (S' := S) ?_).trans ?_
    · have q1 := th_of (k := k) (S := S) p_som (i := 2) (ii := 2) (by decide) rfl (show own som 2 = 5 by decide +kernel)
      have q2 := th_of (k := k) (S := S) p_som (i := 1) (ii := 1) (by decide) rfl (show own som 1 = 0 by decide +kernel)
      have m : Ms 9 2 := ⟨by decide, by decide, by decide, by decide, by decide⟩
      have q3 := s_sees_all (k := k + 3) (S := S) p_som (i := 3) (by decide) m
      have q4 := s_hidden_piece (k := k + 3) (S := S) p_som (i := 3) (by decide) m
      have q5 := s_least_tower (k := k + 5) (S := S) p_som
      rw [show decide (own som 3 * 2 ≤ 9) = false by decide +kernel] at q3
      rw [show pc1 (pcs som 3 9 2) = .int 0 by decide +kernel] at q4
      rw [show LT som = .tup [M 0 1, .tup [.int 1]] by decide +kernel] at q5
      simp only [run] at q3 q4 q5
      have q3' : callF tb.tab 600 (k + 9) "sees_all" [.p (T som), .p (.int 3), .p (M 9 2)] S = .ok (.p (.bl false)) S := q3
      have q4' : callF tb.tab 600 (k + 9) "hidden_piece" [.p (T som), .p (.int 3), .p (M 9 2)] S = .ok (.p (.int 0)) S := q4
      simp [q1, q2, q3', q4', q5, pures]
    refine (seqE (ρ' := [some (.p (T som)), some (.p (.lst [M 5 1, M 0 1, .bl false, .int 0, .tup [M 0 1, .tup [.int 1]], .bl true, M 0 1])), none]) (S' := S) ?_).trans ?_
    · have m : Ms 1 1 := ⟨by decide, by decide, by decide, by decide, by decide⟩
      have q1 := s_is_hidden_piece (k := k + 3) (S := S) p_som (i := 0) (by decide) m (.int 1) rfl
      have q2 := th_of (k := k) (S := S) p_a (i := 0) (ii := 0) (by decide) rfl (show own [0, 0, 1, 3] 0 = 0 by decide +kernel)
      simp only at q1
      rw [show (decide ((0 : Int) ≤ 1) && decide ((1 : Int) ≤ (som.length : Int) - 2) && bl som 0 1 1 (1 : Int).toNat) = true by decide +kernel] at q1
      simp only [run] at q1
      have q1' : callF tb.tab 600 (k + 9) "is_hidden_piece" [.p (T som), .p (.int 0), .p (M 1 1), .p (.int 1)] S = .ok (.p (.bl true)) S := q1
      simp only [List.map_cons, List.map_nil, T] at q2
      simp [q1', q2, pures]
      rw [binD_catL (by simp; exact size1000 (by decide))]
      simp
    refine (seqE (ρ' := [some (.p (T som)), some (.p (.lst [M 5 1, M 0 1, .bl false, .int 0, .tup [M 0 1, .tup [.int 1]], .bl true, M 0 1, .bl true, .bl false, .bl false, M 0 1])), none]) (S' := S) ?_).trans ?_
    · have m : Ms 1 1 := ⟨by decide, by decide, by decide, by decide, by decide⟩
      have m5 : Ms 5 1 := ⟨by decide, by decide, by decide, by decide, by decide⟩
      have q0 := s_sees_all (k := k + 3) (S := S) p_som (i := 3) (by decide) m5
      rw [show decide (own som 3 * 1 ≤ 5) = true by decide +kernel] at q0
      have q1 := s_is_hidden_piece (k := k + 3) (S := S) p_som (i := 0) (by decide) m5 (.int 1) rfl
      have q2 := s_is_hidden_piece (k := k + 3) (S := S) p_som (i := 0) (by decide) m (.bl true) rfl
      have q3 := th_of (k := k) (S := S) p_b (i := 1) (ii := 1) (by decide) rfl (show own [7, 2] 1 = 0 by decide +kernel)
      simp only at q1 q2
      rw [show (decide ((0 : Int) ≤ 1) && decide ((1 : Int) ≤ (som.length : Int) - 2) && bl som 0 5 1 (1 : Int).toNat) = false by decide +kernel] at q1
      simp only [run] at q0 q1 q2
      have q0' : callF tb.tab 600 (k + 9) "sees_all" [.p (T som), .p (.int 3), .p (M 5 1)] S = .ok (.p (.bl true)) S := q0
      have q1' : callF tb.tab 600 (k + 9) "is_hidden_piece" [.p (T som), .p (.int 0), .p (M 5 1), .p (.int 1)] S = .ok (.p (.bl false)) S := q1
      have q2' : callF tb.tab 600 (k + 9) "is_hidden_piece" [.p (T som), .p (.int 0), .p (M 1 1), .p (.bl true)] S = .ok (.p (.bl false)) S := q2
      simp only [List.map_cons, List.map_nil, T] at q3
      simp [q0', q1', q2', q3, pures]
      rw [binD_catL (by simp; exact size1000 (by decide))]
      simp
    refine (seqE (ρ' := [some (.p (T som)), some (.p (.lst [M 5 1, M 0 1, .bl false, .int 0, .tup [M 0 1, .tup [.int 1]], .bl true, M 0 1, .bl true, .bl false, .bl false, M 0 1, .tup [M 0 1, .tup [.int 0, .int 1]], .bl false])), none]) (S' := S) ?_).trans ?_
    · have m : Ms 9999999999999 2000000000000 := ⟨by decide, by decide, by decide, by decide, by decide +kernel⟩
      have q0 := s_least_tower (k := k + 5) (S := S) p_c
      rw [show LT [0, 0] = .tup [M 0 1, .tup [.int 0, .int 1]] by decide +kernel] at q0
      have q1 := s_sees_all (k := k + 3) (S := S) p_som (i := 2) (by decide) m
      rw [show decide (own som 2 * 2000000000000 ≤ 9999999999999) = false by decide +kernel] at q1
      simp only [run] at q0 q1
      have q1' : callF tb.tab 600 (k + 9) "sees_all" [.p (T som), .p (.int 2), .p (M 9999999999999 2000000000000)] S = .ok (.p (.bl false)) S := q1
      simp only [List.map_cons, List.map_nil, T] at q0
      simp [q0, q1', pures]
      rw [binD_catL (by simp; exact size1000 (by decide))]
      simp
    refine (seqE (ρ' := [some (.p (T som)), some (.p (.lst [M 5 1, M 0 1, .bl false, .int 0, .tup [M 0 1, .tup [.int 1]], .bl true, M 0 1, .bl true, .bl false, .bl false, M 0 1, .tup [M 0 1, .tup [.int 0, .int 1]], .bl false])), some (.p (.lst [M 5 1, M 0 1, .bl false, .int 0, .tup [M 0 1, .tup [.int 1]], .bl true, M 0 1, .bl true, .bl false, .bl false, M 0 1, .tup [M 0 1, .tup [.int 0, .int 1]], .bl false]))]) (S' := S) ?_).trans ?_
    · simp [pures]
    refine seqR ?_
    have q1 : callF tb.tab 600 (k + 9) "_law_like" [.p (.lst [M 5 1, M 0 1, .bl false, .int 0, .tup [M 0 1, .tup [.int 1]], .bl true, M 0 1, .bl true, .bl false, .bl false, M 0 1, .tup [M 0 1, .tup [.int 0, .int 1]], .bl false]), .p (.lst [M 5 1, M 0 1, .bl false, .int 0, .tup [M 0 1, .tup [.int 1]], .bl true, M 0 1, .bl true, .bl false, .bl false, M 0 1, .tup [M 0 1, .tup [.int 0, .int 1]], .bl false])] S = .ok (.p (.bl true)) S := like_same lk_sort lk_like (n := 3) (by omega) (by decide +kernel)
    simp [q1]
  have r := run_ret (T := tb.tab) (wf := 600) (k := k + 9) (x := "_law_written_right") (d := d__law_written_right.df) (vs := []) (by kernel_rfl) rfl e
  rw [List.take_length] at r
  exact r
end Lk58

set_option Elab.async false
set_option linter.all false
set_option maxRecDepth 100000
set_option maxHeartbeats 4000000
namespace Lk58
open PySem DV
theorem s_turn {k : Nat} {S : Store} {sc y : Option Sv} (hS : Has S) : ∃ S', Up S S' ∧ evB (callF tb.tab 600 (k + 10)) 600 [.ife (.or (.not (.call "_law_right" false [(.var 1), (.call "_law_profile" false [(.var 1), (.con (.int 9)), (.call "_law_some" false [(.var 1), (.lst [(.con (.int 1)), (.con (.int 4)), (.con (.int 100))])])])])) (.not (.call "_law_points_right" false [(.var 1)]))) [.ret (.con (.bl false))] []] [sc, some (.c 0), y] S = .nx [sc, some (.c 0), y] S' := by
  obtain ⟨x, S1, hx, u1, e1⟩ := s_some (wf := 600) (k := k + 8) lk_roll lk_some (xs := [.int 1, .int 4, .int 100]) (by simp) (by simp) hS
  obtain ⟨t, rfl, ht0, ht1⟩ : ∃ t, x = .int t ∧ 0 ≤ t ∧ t ≤ 1000000 := by
    simp only [List.mem_cons, List.not_mem_nil, or_false] at hx
    rcases hx with rfl | rfl | rfl
    · exact ⟨_, rfl, by omega, by omega⟩
    · exact ⟨_, rfl, by omega, by omega⟩
    · exact ⟨_, rfl, by omega, by omega⟩
  have h1 := u1.has hS
  obtain ⟨ps, S2, P, u2, e2⟩ := s_draw (k := k + 8) (most := 9) (top := t) (by omega) (by omega) ht0 ht1 h1
  have h2 := u2.has h1
  obtain ⟨S3, u3, e3⟩ := s_right (k := k + 1) P h2
  have h3 := u3.has h2
  obtain ⟨S4, u4, e4⟩ := s_points (k := k) h3
  refine ⟨S4, ((u1.trans u2).trans u3).trans u4, ?_⟩
  simp only [run] at e2 e3 e4
  simp [e1, pures, e2, e3, e4]
theorem law_val : ∀ ns : List Int, ns.length ≤ 63 → ∃ S, run 40 "law" [.p (.scr ns)] [] = .ok (.p (.bl true)) S := fun ns hn => by
  obtain ⟨a, b, ok, e0⟩ := s_cup (wf := 600) (k := 38) lk_cup ns (by omega)
  have h0 : Has [Cup a b] := ⟨a, b, ok, rfl⟩
  have hl : ∃ S1 y, Has S1 ∧ evS (callF tb.tab 600 39) 600 (.for (.name 2) .rng [(.con (.int 5))] [.ife (.or (.not (.call "_law_right" false [(.var 1), (.call "_law_profile" false [(.var 1), (.con (.int 9)), (.call "_law_some" false [(.var 1), (.lst [(.con (.int 1)), (.con (.int 4)), (.con (.int 100))])])])])) (.not (.call "_law_points_right" false [(.var 1)]))) [.ret (.con (.bl false))] []]) [some (.p (.scr ns)), some (.c 0), none] [Cup a b] = .nx [some (.p (.scr ns)), some (.c 0), y] S1 := by
    rw [evS_for (vs := [.p (.int 5)]) (S1 := [Cup a b]) (ds := (List.range 5).map fun m => D.int (m : Nat)) (W := []) (by simp) (items_rng (n := 5) (by decide))]
    generalize hr : forL _ _ _ _ _ _ = res
    obtain ⟨ρ', S', rfl, hS, y, rfl⟩ := all_of hr (fun _ ρ S => Has S ∧ ∃ y, ρ = [some (.p (.scr ns)), some (.c 0), y]) ⟨h0, _, rfl⟩ (fun _ _ _ _ => rfl) (fun j hj ρ S hI => by
      obtain ⟨hS, y, rfl⟩ := hI
      obtain ⟨S2, u, e⟩ := s_turn (k := 29) (sc := some (.p (.scr ns))) (y := some (.p (((List.range 5).map fun m => D.int (m : Nat))[j]))) hS
      exact ⟨_, _, S2, rfl, .inl e, u.has hS, _, rfl⟩)
    exact ⟨S', y, hS, rfl⟩
  obtain ⟨S1, y, h1, e1⟩ := hl
  obtain ⟨S2, u2, e2⟩ := s_great (k := 29) h1
  have e3 := s_written (k := 29) (S := S2)
  simp only [run] at e2 e3
  have e : evB (callF tb.tab 600 39) 600 d_law.df.body [some (.p (.scr ns)), none, none] [] = .ret (.p (.bl true)) S2 := by
    refine (seqE (ρ' := [some (.p (.scr ns)), some (.c 0), none]) (S' := [Cup a b]) ?_).trans ?_
    · simp [e0, frsh, Cup]
    refine (seqE e1).trans ?_
    refine seqR ?_
    simp [e2, e3]
  exact ⟨_, run_ret (T := tb.tab) (wf := 600) (k := 39) (x := "law") (d := d_law.df) (vs := [.p (.scr ns)]) (by kernel_rfl) rfl e⟩
end Lk58

set_option Elab.async false
set_option linter.all false
set_option maxRecDepth 100000
open PySem PySem.W PyProof.Rows
set_option maxHeartbeats 0 in
theorem PySem.Challenge.cw_plotsagreed_k58_whole_towers_holds : PySem.Challenge.rw_plotsagreed_k58_whole_towers.Holds := by
  w_on; o_law; k_head; (case hw => w_witness2)
  k_fill
  refine L2.walk_of (l := PySem.Challenge.rw_plotsagreed_k58_whole_towers) (n := 63) (k := 40) (x := "script") (CX := fun w => L2.CX PySem.Challenge.rw_plotsagreed_k58_whole_towers.prog w) (sp := fun w => DV.spLaw _ 63) rfl (by decide) rfl ⟨rfl, by decide, by decide⟩ (fun w h Y => PySem.W.kIn_of Y) ?F (fun _ _ a ns hl _ hS => ⟨a, ns, rfl, hS, hl, fun _ => rfl⟩) DV.noCX
  case F =>
    intro w mg fa h KX G hmg
    refine' DV.law_end (t := Lk58.tb) (bis := Lk58.bis) (gc := Lk58.gcs) (cs := Lk58.cs) (wf := 600) (d := Lk58.d_law) Lk58.ok_all rfl rfl rfl Lk58.law_val KX G hmg ?fn ?fb ?fg ?fc
    case fn =>
      refine' ⟨DV.FnFact.of ?a0 ?b0 ?c0 ?d0, DV.FnFact.of ?a1 ?b1 ?c1 ?d1, DV.FnFact.of ?a2 ?b2 ?c2 ?d2, DV.FnFact.of ?a3 ?b3 ?c3 ?d3, DV.FnFact.of ?a4 ?b4 ?c4 ?d4, DV.FnFact.of ?a5 ?b5 ?c5 ?d5, DV.FnFact.of ?a6 ?b6 ?c6 ?d6, DV.FnFact.of ?a7 ?b7 ?c7 ?d7, DV.FnFact.of ?a8 ?b8 ?c8 ?d8, DV.FnFact.of ?a9 ?b9 ?c9 ?d9, DV.FnFact.of ?a10 ?b10 ?c10 ?d10, DV.FnFact.of ?a11 ?b11 ?c11 ?d11, DV.FnFact.of ?a12 ?b12 ?c12 ?d12, DV.FnFact.of ?a13 ?b13 ?c13 ?d13, DV.FnFact.of ?a14 ?b14 ?c14 ?d14, DV.FnFact.of ?a15 ?b15 ?c15 ?d15, DV.FnFact.of ?a16 ?b16 ?c16 ?d16, DV.FnFact.of ?a17 ?b17 ?c17 ?d17, DV.FnFact.of ?a18 ?b18 ?c18 ?d18, DV.FnFact.of ?a19 ?b19 ?c19 ?d19, DV.FnFact.of ?a20 ?b20 ?c20 ?d20, DV.FnFact.of ?a21 ?b21 ?c21 ?d21, DV.FnFact.of ?a22 ?b22 ?c22 ?d22, DV.FnFact.of ?a23 ?b23 ?c23 ?d23, DV.FnFact.of ?a24 ?b24 ?c24 ?d24, DV.FnFact.of ?a25 ?b25 ?c25 ?d25, DV.FnFact.of ?a26 ?b26 ?c26 ?d26, DV.FnFact.of ?a27 ?b27 ?c27 ?d27, DV.FnFact.of ?a28 ?b28 ?c28 ?d28, DV.FnFact.of ?a29 ?b29 ?c29 ?d29, DV.FnFact.of ?a30 ?b30 ?c30 ?d30, DV.FnFact.of ?a31 ?b31 ?c31 ?d31, trivial⟩
      (case a0 => k_is); (case b0 => k_is); (case c0 => k_is); (case d0 => k_is)
      (case a1 => k_is); (case b1 => k_is); (case c1 => k_is); (case d1 => k_is)
      (case a2 => k_is); (case b2 => k_is); (case c2 => k_is); (case d2 => k_is)
      (case a3 => k_is); (case b3 => k_is); (case c3 => k_is); (case d3 => k_is)
      (case a4 => k_is); (case b4 => k_is); (case c4 => k_is); (case d4 => k_is)
      (case a5 => k_is); (case b5 => k_is); (case c5 => k_is); (case d5 => k_is)
      (case a6 => k_is); (case b6 => k_is); (case c6 => k_is); (case d6 => k_is)
      (case a7 => k_is); (case b7 => k_is); (case c7 => k_is); (case d7 => k_is)
      (case a8 => k_is); (case b8 => k_is); (case c8 => k_is); (case d8 => k_is)
      (case a9 => k_is); (case b9 => k_is); (case c9 => k_is); (case d9 => k_is)
      (case a10 => k_is); (case b10 => k_is); (case c10 => k_is); (case d10 => k_is)
      (case a11 => k_is); (case b11 => k_is); (case c11 => k_is); (case d11 => k_is)
      (case a12 => k_is); (case b12 => k_is); (case c12 => k_is); (case d12 => k_is)
      (case a13 => k_is); (case b13 => k_is); (case c13 => k_is); (case d13 => k_is)
      (case a14 => k_is); (case b14 => k_is); (case c14 => k_is); (case d14 => k_is)
      (case a15 => k_is); (case b15 => k_is); (case c15 => k_is); (case d15 => k_is)
      (case a16 => k_is); (case b16 => k_is); (case c16 => k_is); (case d16 => k_is)
      (case a17 => k_is); (case b17 => k_is); (case c17 => k_is); (case d17 => k_is)
      (case a18 => k_is); (case b18 => k_is); (case c18 => k_is); (case d18 => k_is)
      (case a19 => k_is); (case b19 => k_is); (case c19 => k_is); (case d19 => k_is)
      (case a20 => k_is); (case b20 => k_is); (case c20 => k_is); (case d20 => k_is)
      (case a21 => k_is); (case b21 => k_is); (case c21 => k_is); (case d21 => k_is)
      (case a22 => k_is); (case b22 => k_is); (case c22 => k_is); (case d22 => k_is)
      (case a23 => k_is); (case b23 => k_is); (case c23 => k_is); (case d23 => k_is)
      (case a24 => k_is); (case b24 => k_is); (case c24 => k_is); (case d24 => k_is)
      (case a25 => k_is); (case b25 => k_is); (case c25 => k_is); (case d25 => k_is)
      (case a26 => k_is); (case b26 => k_is); (case c26 => k_is); (case d26 => k_is)
      (case a27 => k_is); (case b27 => k_is); (case c27 => k_is); (case d27 => k_is)
      (case a28 => k_is); (case b28 => k_is); (case c28 => k_is); (case d28 => k_is)
      (case a29 => k_is); (case b29 => k_is); (case c29 => k_is); (case d29 => k_is)
      (case a30 => k_is); (case b30 => k_is); (case c30 => k_is); (case d30 => k_is)
      (case a31 => k_is); (case b31 => k_is); (case c31 => k_is); (case d31 => k_is)
    case fb =>
      refine' ⟨?b0, ?b1, ?b2, ?b3, ?b4, ?b5, ?b6, ?b7, ?b8, ?b9, ?b10, ?b11, ?b12, ?b13, trivial⟩
      (case b0 => show PySem.W.nsIn _ _ _ = _; k_is); (case b1 => show PySem.W.nsIn _ _ _ = _; k_is); (case b2 => show PySem.W.nsIn _ _ _ = _; k_is); (case b3 => show PySem.W.nsIn _ _ _ = _; k_is); (case b4 => show PySem.W.nsIn _ _ _ = _; k_is); (case b5 => show PySem.W.nsIn _ _ _ = _; k_is); (case b6 => show PySem.W.nsIn _ _ _ = _; k_is); (case b7 => show PySem.W.nsIn _ _ _ = _; k_is); (case b8 => show PySem.W.nsIn _ _ _ = _; k_is); (case b9 => show PySem.W.nsIn _ _ _ = _; k_is); (case b10 => show PySem.W.nsIn _ _ _ = _; k_is); (case b11 => show PySem.W.nsIn _ _ _ = _; k_is); (case b12 => show PySem.W.nsIn _ _ _ = _; k_is); (case b13 => show PySem.W.nsIn _ _ _ = _; k_is)
    case fg =>
      refine' ⟨?b0, trivial⟩
      (case b0 => show PySem.W.nsIn _ _ _ = _; k_is)
    case fc =>
      refine' ⟨DV.CsFact.int ?b0, DV.CsFact.int ?b1, DV.CsFact.int ?b2, trivial⟩
      (case b0 => k_is); (case b1 => k_is); (case b2 => k_is)

