import PyProof.Rows.All
import Wide.All
import OpenK.AllK
import Wide.FinOn
import HandS.ForMost
import HandS.TupAny
import HandS.TupMul
import HandS.Style
import HandS.Wide
import HandS.Zip
import HandS.CallSlots
import HandS.WordsExc
import HandS.Deep
import HandS.Gcd
import KE.SortData
import HandS.SetFor
import HandS.Strs
import HandS.IsInst
import HandS.SortInts
import PyProof.ListMulRoad
import PyProof.FactsAll.tuple_2
import KE.KRevSl
import HandS.Conv
import KE.KDictSum
import PySem.Challenge.RW_plotsagreed_k34_whole_areas
set_option Elab.async false
set_option linter.all false
set_option maxRecDepth 100000
set_option maxHeartbeats 4000000
/-! sorted(set(xs)), xs a list or a tuple of ints. -/
namespace DV
open PySem PySem.Spec PyProof.Rows L2
/-- the new, empty set's object -/
abbrev set0 (w : World) : Obj := { cls := .type "set", dict := none, data := .set #[] 0 (.fresh 0 0 (!w.params.followText "set-order")) }
abbrev hp1 (w : World) (g : Heap) : Heap := g.push (set0 w)
section
variable {P : Program} {w : World} {A : Around} {E : Value → Shared → Prop} {s : Shared}
theorem hp1_size (g : Heap) : (hp1 w g).objs.size = g.objs.size + 1 := Heap.size_push ..
theorem hp1_at (g : Heap) : (hp1 w g).get? g.objs.size = some (set0 w) := Heap.get?_push_size _ rfl
/-- what the filling of the set leaves -/
def Filled (P : Program) (w : World) (s : Shared) (ks : List Int) (r : Value) (s2 : Shared) : Prop :=
  r = .none ∧ ∃ g tk c, s2 = { s with heap := g, toks := tk } ∧ SetR w g s.heap.objs.size (fun j => decide (j ∈ ks)) c ∧ c ≤ ks.length ∧ ∀ b o, s.heap.get? b = some o → g.get? b = some o
/-- set(xs) of a list of ints, told as what sorted asks -/
theorem set_of_list {l : Addr} {xs : Array Value} (ks : List Int) {Q : Value → Shared → Prop} (cool : A.handled = none) (at0 : s.heap.IsList l xs) (hints : IntsAre xs.toList ks) (few : ks.length + 1 < scanBound)
    (fin : ∀ (g : Heap) (tk c : Nat), SetR w g s.heap.objs.size (fun j => decide (j ∈ ks)) c → c ≤ ks.length → (∀ b o, s.heap.get? b = some o → g.get? b = some o) → Q (.ref s.heap.objs.size) { s with heap := g, toks := tk }) :
    wpAny (model P w) A (call (.type "set") [.ref l]) Q E s := by
  obtain ⟨c0, tl0, mro0⟩ := F.called_set.mro
  have made0 := F.called_set.made
  have sub0 := F.called_set.sub
  refine wpAny_call (codeAny_of_tree ?_)
  show wpAny _ _ (callAny (.type "set") _) _ _ _
  refine wpAny_pure ⟨Code.quiet_builtin _ (by decide +kernel), codeAny_builtin F.entry_type_call ?_⟩
  rw [Around.under_plain (weight_type_call_type "set" [.ref l] []) rfl]
  have nT := F.called_set.notType
  have cC := F.called_set.canCreate
  have tC := F.typeCall_set_1 (.ref l)
  repeat (any_goals (first | assumption | wp_step))
  refine codeAny_mono (code_set_led1 (.ref l) (E := E) (Q₁ := fun o1 s1 => o1 = .ref s.heap.objs.size ∧ s1 = { s with heap := hp1 w s.heap }) ⟨rfl, rfl⟩) fun r1 s1 hr1 => ?_
  cases r1 with
  | error _ => exact hr1
  | ok f1 =>
    cases f1 with
    | ret o1 =>
      obtain ⟨rfl, rfl⟩ := hr1
      have atS := hp1_at (w := w) s.heap
      have tyS : Shared.TypeIs { s with heap := hp1 w s.heap } (.ref s.heap.objs.size) "set" := ⟨_, atS, rfl⟩
      have iL := F.called_set.init.lookup
      have iB := F.called_set.init.bind (.ref s.heap.objs.size)
      repeat (any_goals (first | assumption | wp_step))
      refine codeAny_mono (codeAny_call_builtin (R := wants (Filled P w s ks) E) F.called_set.init.plain F.entry_set_init (check_set_init_1 tyS ?_)) fun r2 s2 hr2 => ?_
      · have len : xs.size = ks.length := by
          have e0 := hints.length
          rwa [Array.length_toList] at e0
        obtain ⟨⟨lc, ld, ldat, lsl⟩, il, kl, nl, dl⟩ := at0
        simp only at kl dl
        subst kl; subst dl
        have there : (hp1 w s.heap).get? l = some { cls := .type "list", dict := ld, data := .seq xs nl, slots := lsl } := Heap.get?_push_of_some _ il
        have atL : (hp1 w s.heap).IsList l xs := ⟨_, there, rfl, nl, rfl⟩
        have sub1 := F.sub_list_set
        have sub2 := F.sub_list_frozenset
        have noDict : (Value.type "list" == Value.type "dict") = false := by decide
        unfold Builtin.«set.__init__» noKeywords Builtin.Frozenset.updateFrom
        generalize hPy : pyIter = Py
        wp_walk
        subst hPy
        refine wpAny_pyIter_list atL ?_
        refine wpAny_bind (wpAny_runValue ?_)
        have below : l < s.heap.objs.size := Heap.lt_size il
        have cool3 : A.in1.in1.in1.handled = none := by simp [cool]
        have apart : l ≠ (hp1 w s.heap).objs.size := by rw [hp1_size]; exact Nat.ne_of_lt (Nat.lt_succ_of_lt below)
        have out : s.heap.objs.size ∉ [(hp1 w s.heap).objs.size, l] := by
          rw [hp1_size]
          intro z
          rcases List.mem_cons.mp z with z | z
          · exact absurd z (Nat.ne_of_lt (Nat.lt_succ_self _))
          · exact absurd (List.mem_singleton.mp z) (Nat.ne_of_gt below)
        have each : ∀ (i : Nat) (v : Value), xs[i]? = some v → ∃ k t, ks[i]? = some k ∧ v = .int k t := fun i v hv => by
          have hi : i < ks.length := len ▸ (Array.getElem?_eq_some_iff.mp hv).1
          obtain ⟨t, e⟩ := hints.int_at i v (by rw [Array.getElem?_toList]; exact hv)
          exact ⟨ks[i], t, List.getElem?_eq_getElem hi, by rw [e, List.getD_eq_getElem?_getD, List.getElem?_eq_getElem hi]; rfl⟩
        refine set_update_ints ((Walks.list cool3 _ l apart xs).toS) s.heap.objs.size out ks len few each (xs.size - 0) 0 _ (by omega) (Nat.zero_le _)
          ⟨⟨_, Heap.get?_push_size _ rfl, rfl, rfl⟩, (atL.push _)⟩ ⟨0, Nat.le_refl 0, setR_new_at (Heap.get?_push_of_some _ atS)⟩ fun s3 c3 mv hc3 hS3 => ?_
        obtain ⟨g3, n3, d3, tk3, os3⟩ := s3
        obtain rfl : n3 = s.gens := mv.gens
        obtain rfl : d3 = s.drawn := mv.drawn
        obtain rfl : os3 = s.os := mv.os
        show wpAny _ _ _ _ _ _
        refine wpAny_pure ?_
        show wpAny _ _ (ret Value.none) _ _ _
        refine wpAny_pure ⟨rfl, g3, tk3, c3, rfl, hS3, by omega, fun b o e => ?_⟩
        have lt := Heap.lt_size e
        refine mv.heap b o (fun z => ?_) (Heap.get?_push_of_some _ (Heap.get?_push_of_some _ e))
        rcases List.mem_cons.mp z with z | z
        · exact Nat.ne_of_lt lt z
        · rw [List.mem_singleton, hp1_size] at z
          exact Nat.ne_of_lt (Nat.lt_succ_of_lt lt) z
      · cases r2 with
        | error _ => exact hr2
        | ok f2 =>
          cases f2 with
          | ret _ =>
            obtain ⟨rfl, g, tk, c, rfl, hS, hc, keep⟩ := hr2
            repeat (any_goals (first | assumption | wp_step))
            exact fin _ _ _ hS hc keep
          | _ => exact hr2.elim
    | _ => exact hr1.elim
end
section
variable {X : Cx}
/-- set(xs), ints -/
def rSetLT (K : PySem.W.Frag) (w : World) : List V → Hp → VK → Prop := fun xs H Q => ∃ (a : Addr) (ks : List Int), xs = [V.ref a] ∧ (SqL K H a (ks.map V.int) ∨ SqT K H a (ks.map V.int)) ∧ ks.length < 60 ∧
  ∀ p c, H p = none → c ≤ ks.length → Q (.ref p) (upd H p (SetO w p (fun j => decide (j ∈ ks)) c))
theorem cr_setLT (hc : X.calm = true) : CallR X (.type "set") (rSetLT X.K X.w) := by
  intro pins s σ H xs us Q I r h
  obtain ⟨a, ks, rfl, hq, few, q⟩ := h
  rw [Vals.ref1 r]
  have hb : ks.length + 1 < scanBound := by unfold scanBound; omega
  rcases hq with hq | hq
  · obtain ⟨its, rv, pl, hz⟩ := I.list hq
    exact set_of_list (P := X.prog) ks (I.ok.hd hc) pl.isList (intsAre_of (by simpa using rv)) hb fun g tk c R le k =>
      ⟨.ref s.heap.objs.size, upd H s.heap.objs.size (SetO X.w s.heap.objs.size (fun j => decide (j ∈ ks)) c), I.laid (t' := tk) k (Nat.le_refl _) (setO_new R), rfl, q _ _ (I.hok.fresh (Nat.le_refl _)) le⟩
  · obtain ⟨its, rv, ⟨o, ho, hcl, n, hd⟩, hz⟩ := I.tuple hq
    exact call_set_tupI (P := X.prog) ks (I.ok.hd hc) ⟨o, ho, hcl, n, hd⟩ (intsAre_of (by simpa using rv)) hb fun g tk c R le k =>
      ⟨.ref s.heap.objs.size, upd H s.heap.objs.size (SetO X.w s.heap.objs.size (fun j => decide (j ∈ ks)) c), I.laid (t' := tk) k (Nat.le_refl _) (setO_new R), rfl, q _ _ (I.hok.fresh (Nat.le_refl _)) le⟩
end
end DV

set_option Elab.async false
set_option linter.all false
set_option maxRecDepth 100000
/-! DV1: values without a heap, an intermediate form of expressions and statements, and how they are evaluated. -/
namespace DV
open PySem

/-! ### values -/
inductive D where
  | non | bl (b : Bool) | int (i : Int) | str (x : Str)
  | tup (xs : List D) | lst (xs : List D) | scr (ns : List Int) | fn (x : Str)
  | dct (ks : List L2.Key) (vs : List D)
  deriving Inhabited, Repr
mutual
def D.beq : D → D → Bool
  | .non, .non => true
  | .bl a, .bl b => a == b
  | .int a, .int b => a == b
  | .str a, .str b => a == b
  | .tup a, .tup b => D.beqs a b
  | .lst a, .lst b => D.beqs a b
  | .scr a, .scr b => a == b
  | .fn a, .fn b => a == b
  | .dct ks a, .dct ls b => decide (ks = ls) && D.beqs a b
  | _, _ => false
termination_by structural x => x
def D.beqs : List D → List D → Bool
  | [], [] => true
  | a :: as, b :: bs => D.beq a b && D.beqs as bs
  | _, _ => false
termination_by structural x => x
end
mutual
theorem D.beq_eq : ∀ a b : D, D.beq a b = true → a = b
  | .non, b, h => by cases b <;> simp_all [D.beq]
  | .bl _, b, h => by cases b <;> simp_all [D.beq]
  | .int _, b, h => by cases b <;> simp_all [D.beq]
  | .str _, b, h => by cases b <;> simp_all [D.beq]
  | .tup xs, b, h => by
    cases b <;> simp [D.beq] at h
    rw [D.beqs_eq xs _ h]
  | .lst xs, b, h => by
    cases b <;> simp [D.beq] at h
    rw [D.beqs_eq xs _ h]
  | .scr _, b, h => by cases b <;> simp_all [D.beq]
  | .fn _, b, h => by cases b <;> simp_all [D.beq]
  | .dct ks xs, b, h => by
    cases b <;> simp [D.beq] at h
    rw [h.1, D.beqs_eq xs _ h.2]
theorem D.beqs_eq : ∀ a b : List D, D.beqs a b = true → a = b
  | [], b, h => by cases b <;> simp_all [D.beqs]
  | x :: xs, b, h => by
    cases b with
    | nil => simp [D.beqs] at h
    | cons y ys =>
      simp [D.beqs] at h
      rw [D.beq_eq x y h.1, D.beqs_eq xs ys h.2]
end
mutual
theorem D.beq_refl : ∀ a : D, D.beq a a = true
  | .non => rfl
  | .bl _ => by simp [D.beq]
  | .int _ => by simp [D.beq]
  | .str _ => by simp [D.beq]
  | .tup xs => by simp only [D.beq]; exact D.beqs_refl xs
  | .lst xs => by simp only [D.beq]; exact D.beqs_refl xs
  | .scr _ => by simp [D.beq]
  | .fn _ => by simp [D.beq]
  | .dct ks xs => by simp only [D.beq, D.beqs_refl xs, decide_true, Bool.and_self]
theorem D.beqs_refl : ∀ a : List D, D.beqs a a = true
  | [] => rfl
  | x :: xs => by simp only [D.beqs, D.beq_refl x, D.beqs_refl xs, Bool.and_self]
end
instance : DecidableEq D := fun a b => if h : D.beq a b = true then isTrue (D.beq_eq a b h) else isFalse fun e => h (e ▸ D.beq_refl a)

/-- what stands in a cell: a list that may change, a dict that may -/
inductive Cell where
  | lst (xs : List D)
  | dct (ks : List L2.Key) (vs : List D)
  deriving Inhabited, Repr, DecidableEq
abbrev Store := List Cell
/-- what a name holds: a value, or a cell -/
inductive Sv where
  | p (d : D) | c (i : Nat)
  deriving Inhabited, Repr, DecidableEq
abbrev Loc := List (Option Sv)

/-- an exception: its class's name, its number (where its class keeps one) -/
structure Xc where
  cls : Str
  arg : Option D := none

inductive R (α : Type) where
  | ok (a : α) (S : Store)
  | exc (x : Xc) (S : Store)
  | bad
def R.bind {α β : Type} (r : R α) (f : α → Store → R β) : R β :=
  match r with
  | .ok a S => f a S
  | .exc x S => .exc x S
  | .bad => .bad
@[simp] theorem R.bind_ok {α β : Type} {a : α} {S : Store} {f : α → Store → R β} : (R.ok a S).bind f = f a S := (rfl)
@[simp] theorem R.bind_exc {α β : Type} {x : Xc} {S : Store} {f : α → Store → R β} : (R.exc x S : R α).bind f = .exc x S := (rfl)
@[simp] theorem R.bind_bad {α β : Type} {f : α → Store → R β} : (R.bad : R α).bind f = .bad := (rfl)
/-- a partial answer -/
def R.of {α : Type} (o : Option α) (S : Store) : R α :=
  match o with
  | some a => .ok a S
  | none => .bad
@[simp] theorem R.of_some {α : Type} {a : α} {S : Store} : R.of (some a) S = .ok a S := (rfl)
@[simp] theorem R.of_none {α : Type} {S : Store} : (R.of none S : R α) = .bad := (rfl)

/-! ### operations on values -/
/-- the value of what a name holds -/
def der (S : Store) : Sv → Option D
  | .p d => some d
  | .c i => match S[i]? with
    | some (.lst xs) => some (.lst xs)
    | some (.dct ks vs) => some (.dct ks vs)
    | none => none
@[simp] theorem der_p {S : Store} {d : D} : der S (.p d) = some d := (rfl)
def ders (S : Store) : List Sv → Option (List D)
  | [] => some []
  | v :: vs => match der S v with
    | some d => (ders S vs).map (d :: ·)
    | none => none
@[simp] theorem ders_nil {S : Store} : ders S [] = some [] := (rfl)
@[simp] theorem ders_p {S : Store} {d : D} {vs : List Sv} : ders S (.p d :: vs) = (ders S vs).map (d :: ·) := (rfl)
/-- the pure values -/
def pures : List Sv → Option (List D)
  | [] => some []
  | .p d :: vs => (pures vs).map (d :: ·)
  | .c _ :: _ => none
@[simp] theorem pures_nil : pures [] = some [] := (rfl)
@[simp] theorem pures_p {d : D} {vs : List Sv} : pures (.p d :: vs) = (pures vs).map (d :: ·) := (rfl)

def smallI (i : Int) : Prop := -(2 ^ 64) < i ∧ i < 2 ^ 64
instance (i : Int) : Decidable (smallI i) := inferInstanceAs (Decidable (_ ∧ _))
def mulOK (i j : Int) : Prop := smallI i ∨ smallI j ∨ i.natAbs.log2 + j.natAbs.log2 < 1000000
instance (i j : Int) : Decidable (mulOK i j) := inferInstanceAs (Decidable (_ ∨ _))
def divOK (j : Int) : Prop := j ≠ 0 ∧ j.natAbs.log2 < 9000
instance (j : Int) : Decidable (divOK j) := inferInstanceAs (Decidable (_ ∧ _))
def powOK (i j : Int) : Prop := 0 ≤ j ∧ j ≤ 1000000 ∧ i.natAbs < 2 ^ 64
instance (i j : Int) : Decidable (powOK i j) := inferInstanceAs (Decidable (_ ∧ _))

def binD : Operator → D → D → Option D
  | .Add, .int i, .int j => some (.int (i + j))
  | .Sub, .int i, .int j => some (.int (i - j))
  | .Mult, .int i, .int j => if mulOK i j then some (.int (i * j)) else none
  | .FloorDiv, .int i, .int j => if divOK j then some (.int (i.fdiv j)) else none
  | .Mod, .int i, .int j => if j ≠ 0 then some (.int (i.fmod j)) else none
  | .Pow, .int i, .int j => if powOK i j then some (.int (i ^ j.toNat)) else none
  | .Add, .str x, .str y => if x.length + y.length ≤ sizeLine then some (.str (x ++ y)) else none
  | .Add, .lst xs, .lst ys => if xs.length + ys.length ≤ sizeLine then some (.lst (xs ++ ys)) else none
  | .Add, .tup xs, .tup ys => if xs.length + ys.length ≤ sizeLine then some (.tup (xs ++ ys)) else none
  | .Mult, .lst xs, .int k => if -(2 ^ 63) ≤ k ∧ k < 2 ^ 63 ∧ xs.length * k.toNat ≤ sizeLine then some (.lst (List.replicate k.toNat xs).flatten) else none
  | .Mult, .tup xs, .int k => if xs ≠ [] ∧ 2 ≤ k ∧ k ≤ 1000 ∧ xs.length ≤ 1000 then some (.tup (List.replicate k.toNat xs).flatten) else if -(2 ^ 63) ≤ k ∧ k < 2 ^ 63 ∧ (k ≤ 1 ∨ xs = []) then some (.tup (List.replicate k.toNat xs).flatten) else none
  | _, _, _ => none

mutual
def toPy : D → Option PyData
  | .non => some .none
  | .bl b => some (.bool b)
  | .int i => some (.int i)
  | .str x => some (.str x)
  | .tup xs => (toPys xs).map .tuple
  | .lst xs => (toPys xs).map .list
  | .scr _ => none
  | .fn _ => none
  | .dct _ _ => none
termination_by structural x => x
def toPys : List D → Option (List PyData)
  | [] => some []
  | d :: ds => match toPy d with
    | some p => (toPys ds).map (p :: ·)
    | none => none
termination_by structural x => x
end
/-- == -/
def eqD (d e : D) : Option Bool :=
  match toPy d, toPy e with
  | some a, some b => if SeqAt.shaped a = true ∧ SeqAt.shaped b = true then some (PyData.eqv a b) else none
  | _, _ => none
def intsOf : List D → Option (List Int)
  | [] => some []
  | .int i :: ds => (intsOf ds).map (i :: ·)
  | _ => none
def blsOf : List D → Option (List Bool)
  | [] => some []
  | .bl i :: ds => (blsOf ds).map (i :: ·)
  | _ => none
/-- x in a list, a tuple -/
def isIn (x c : D) : Option Bool :=
  match toPy x, c with
  | some a, .lst xs => match toPys xs with
    | some ps => if SeqAt.shaped a = true ∧ SeqAt.shaped (.list ps) = true then some (ps.any fun z => PyData.eqv z a) else none
    | none => none
  | some a, .tup xs => match toPys xs with
    | some ps => if SeqAt.shaped a = true ∧ SeqAt.shaped (.tuple ps) = true then some (ps.any fun z => PyData.eqv z a) else none
    | none => none
  | _, _ => none
def keyOf : D → Option L2.Key
  | .int i => some (.inl i)
  | .str x => some (.inr x)
  | _ => none
/-- ints and texts -/
def keysOf : List D → Option (List L2.Key)
  | [] => some []
  | d :: ds => (keyOf d).bind fun k => (keysOf ds).map (k :: ·)
/-- x in a dict -/
def inDct (x : D) (ks : List L2.Key) : Option Bool :=
  match x with
  | .tup ds => if ks = [] ∧ (keysOf ds).isSome = true then some false else none
  | x => (keyOf x).map fun k => ks.any fun j => decide (j = k)
def cmpD : CmpOp → D → D → Option Bool
  | .Eq, d, e => eqD d e
  | .NotEq, d, e => (eqD d e).map (!·)
  | .Lt, .int i, .int j => some (decide (i < j))
  | .LtE, .int i, .int j => some (decide (i ≤ j))
  | .Gt, .int i, .int j => some (decide (j < i))
  | .GtE, .int i, .int j => some (decide (j ≤ i))
  | .Lt, .tup xs, .tup ys => match intsOf xs, intsOf ys with
    | some ns, some ms => some (HT.lexLt ns ms)
    | _, _ => none
  | .Is, d, .non => some (decide (d = .non))
  | .IsNot, d, .non => some (!decide (d = .non))
  | .Is, .bl a, .bl b => some (decide (a = b))
  | .IsNot, .bl a, .bl b => some (!decide (a = b))
  | .In, d, .dct ks _ => inDct d ks
  | .NotIn, d, .dct ks _ => (inDct d ks).map (!·)
  | .In, d, c => isIn d c
  | .NotIn, d, c => (isIn d c).map (!·)
  | _, _, _ => none

/-- the truth of a value -/
def truD : D → Option Bool
  | .non => some false
  | .bl b => some b
  | .int i => some (i != 0)
  | .str x => if x.length ≤ sizeLine then some ((x.length : Int) != 0) else none
  | .tup xs => some (!xs.isEmpty)
  | .lst xs => some (!xs.isEmpty)
  | _ => none
def cutD (xs : List D) (lo hi : Option Int) : List D := (xs.drop (HT.sIx xs.length 0 lo)).take (HT.sIx xs.length xs.length hi - HT.sIx xs.length 0 lo)
/-- what a dict holds at a key -/
def dget : List L2.Key → List D → L2.Key → Option D
  | k :: ks, v :: vs, x => if k = x then some v else dget ks vs x
  | _, _, _ => none
def ixD : D → D → Option D
  | .lst xs, .int i => L2.atI xs i
  | .tup xs, .int i => L2.atI xs i
  | .str x, .int i => if x.length ≤ sizeLine then (L2.atI x.cps.toList i).map fun c => .str ⟨#[c]⟩ else none
  | .dct ks vs, e => (keyOf e).bind fun k => dget ks vs k
  | _, _ => none
def slD (d : D) (lo hi : Option Int) : Option D :=
  match d with
  | .lst xs => some (.lst (cutD xs lo hi))
  | .tup xs => some (.tup (cutD xs lo hi))
  | _ => none
/-- the greatest, the least -/
def maxI : List Int → Option Int
  | [] => none
  | x :: xs => some (xs.foldl (fun a b => if b > a then b else a) x)
def minI : List Int → Option Int
  | [] => none
  | x :: xs => some (xs.foldl (fun a b => if b < a then b else a) x)
def encD (d : D) : PyData := (toPy d).getD .none
def isTup1 : PyData → Bool
  | .tuple (_ :: _) => true
  | _ => false
def noTupN : PyData → Bool
  | .tuple _ => false
  | .none => false
  | _ => true
def sortOK (ds : List D) : Bool :=
  (ds.all fun d => (toPy d).isSome) && (ds.all fun d => ds.all fun e => PySem.W.alike (encD d) (encD e)) && ((ds.all fun d => isTup1 (encD d)) || (ds.all fun d => noTupN (encD d))) && (ds.all fun d => decide ((encD d).depth ≤ 60))
def sortedD (ds : List D) : Option (List D) := if sortOK ds = true ∧ ds.length ≤ sizeLine then some (ds.mergeSort (PySem.W.dataLe false encD)) else none
/-- which of the built-in classes a value is of -/
inductive Ty where
  | int | bool | str | tuple | list
  deriving DecidableEq, Repr
def isiD : D → Ty → Option Bool
  | .non, _ => some false
  | .bl _, .bool => some true
  | .bl _, .int => some true
  | .bl _, _ => some false
  | .int _, .int => some true
  | .int _, _ => some false
  | .str _, .str => some true
  | .str _, _ => some false
  | .tup _, .tuple => some true
  | .tup _, _ => some false
  | .lst _, .list => some true
  | .lst _, _ => some false
  | _, _ => none
def tyTab : List (Str × Ty) := [("int", .int), ("bool", .bool), ("str", .str), ("tuple", .tuple), ("list", .list)]
def Ty.name : Ty → String
  | .int => "int" | .bool => "bool" | .str => "str" | .tuple => "tuple" | .list => "list"

/-! the built-in functions and classes, called -/
def biLen : List D → Option D
  | [.lst xs] => some (.int xs.length)
  | [.tup xs] => some (.int xs.length)
  | [.str x] => if x.length ≤ sizeLine then some (.int x.length) else none
  | _ => none
def biAbs : List D → Option D
  | [.int i] => some (.int (if i < 0 then -i else i))
  | _ => none
def biMax : List D → Option D
  | [.int i, .int j] => some (.int (if j > i then j else i))
  | [.lst xs] => (intsOf xs).bind fun ns => (maxI ns).map .int
  | _ => none
def biMin : List D → Option D
  | [.int i, .int j] => some (.int (if j < i then j else i))
  | [.lst xs] => (intsOf xs).bind fun ns => (minI ns).map .int
  | _ => none
def biSum : List D → Option D
  | [.lst xs] => (intsOf xs).map fun ns => .int ns.sum
  | _ => none
def biAny : List D → Option D
  | [.lst xs] => (blsOf xs).map fun ns => .bl (ns.any id)
  | _ => none
def biAll : List D → Option D
  | [.lst xs] => (blsOf xs).map fun ns => .bl (ns.all id)
  | _ => none
def biInt : List D → Option D
  | [.int i] => some (.int i)
  | [.bl b] => some (.int (if b then 1 else 0))
  | _ => none
def biTuple : List D → Option D
  | [.lst xs] => some (.tup xs)
  | [.tup xs] => some (.tup xs)
  | _ => none
def biList : List D → Option D
  | [.lst xs] => some (.lst xs)
  | [.tup xs] => some (.lst xs)
  | [.scr ns] => some (.lst (ns.map .int))
  | _ => none
/-- a key as a value -/
def kD : L2.Key → D
  | .inl i => .int i
  | .inr x => .str x
/-- pairs of a key and a value -/
def pairsD : List D → Option (List (L2.Key × D))
  | [] => some []
  | .tup [.int i, v] :: ds => (pairsD ds).map fun r => (.inl i, v) :: r
  | .tup [.str x, v] :: ds => (pairsD ds).map fun r => (.inr x, v) :: r
  | _ => none
def putZ {α : Type} (kvs : List (L2.Key × α)) (k : L2.Key) (v : α) : List (L2.Key × α) :=
  if (kvs.any fun kv => decide (kv.1 = k)) = true then kvs.map (fun kv => if kv.1 = k then (kv.1, v) else kv) else kvs ++ [(k, v)]
def mergeZ {α : Type} (kvs more : List (L2.Key × α)) : List (L2.Key × α) := more.foldl (fun acc kv => putZ acc kv.1 kv.2) kvs
def mkDct (kvs : List (L2.Key × D)) : D := .dct (kvs.map (·.1)) (kvs.map (·.2))
/-- a dict's keys and values behind d[k] = v -/
def dput (ks : List L2.Key) (vs : List D) (k : L2.Key) (v : D) : List L2.Key × List D :=
  ((putZ (ks.zip vs) k v).map (·.1), (putZ (ks.zip vs) k v).map (·.2))
def biDict : List D → Option D
  | [.lst ds] => (pairsD ds).map fun r => mkDct (mergeZ [] r)
  | _ => none
def biSorted : List D → Option D
  | [.dct ks _] => (sortedD (ks.map kD)).map .lst
  | [.lst xs] => (sortedD xs).map .lst
  | [.tup xs] => (sortedD xs).map .lst
  | _ => none
def biStr : List D → Option D
  | [.int i] => if i.natAbs.log2 < 1920 then some (.str (Str.ofString (toString i))) else none
  | _ => none
def biGcd : List D → Option D
  | [.int i, .int j] => some (.int ((Nat.gcd i.natAbs j.natAbs : Nat) : Int))
  | _ => none
/-- where it stands first -/
def idxI (k : Int) : List Int → Option Nat
  | [] => none
  | x :: xs => if x = k then some 0 else (idxI k xs).map (· + 1)
/-- sorted(set(..)) of ints -/
def insS (x : Int) : List Int → List Int
  | [] => [x]
  | y :: ys => if x < y then x :: y :: ys else if x = y then y :: ys else y :: insS x ys
def ssetI (ns : List Int) : List Int := ns.foldr insS []
def biSset : List D → Option D
  | [.lst xs] => (intsOf xs).bind fun ns => if ns.length < 60 then some (.lst ((ssetI ns).map .int)) else none
  | [.tup xs] => (intsOf xs).bind fun ns => if ns.length < 60 then some (.lst ((ssetI ns).map .int)) else none
  | _ => none
/-- which of them -/
inductive Bi where
  | len | abs | max | min | sum | any | all | int | tuple | list | sorted | gcd | str | dict | sset
  deriving DecidableEq, Repr
def biF : Bi → List D → Option D
  | .len => biLen | .abs => biAbs | .max => biMax | .min => biMin | .sum => biSum | .any => biAny | .all => biAll | .int => biInt | .tuple => biTuple | .list => biList | .sorted => biSorted | .gcd => biGcd | .str => biStr | .dict => biDict | .sset => biSset
/-- those whose list is new -/
def biFresh : Bi → Bool
  | .list => true | .sorted => true | .sset => true | _ => false
def biTab : List (Str × Bi) := [("len", .len), ("abs", .abs), ("max", .max), ("min", .min), ("sum", .sum), ("any", .any), ("all", .all), ("int", .int), ("tuple", .tuple), ("list", .list), ("sorted", .sorted), ("str", .str), ("dict", .dict)]

/-! ### the intermediate form -/
/-- targets -/
inductive DT where
  | name (i : Nat) | tup (ts : List DT)
  deriving Repr
mutual
def DT.slots : DT → List Nat
  | .name i => [i]
  | .tup ts => DT.slotss ts
termination_by structural x => x
def DT.slotss : List DT → List Nat
  | [] => []
  | t :: ts => DT.slots t ++ DT.slotss ts
termination_by structural x => x
end
/-- what is walked: a sequence, a range, zip, enumerate -/
inductive IK where
  | seq | rng | zip | enum
  deriving Repr, DecidableEq
inductive DE where
  | var (i : Nat) | con (d : D)
  | bin (op : Operator) (a b : DE) | neg (a : DE)
  | cmp (op : CmpOp) (a b : DE) | chain (op op' : CmpOp) (a b c : DE)
  | and (a b : DE) | or (a b : DE) | not (a : DE) | ife (c a b : DE)
  | tup (es : List DE) | lst (es : List DE)
  | ix (a i : DE) | sl (a : DE) (lo hi : Option DE) | rev (a : DE) | pop (a i : DE) | idx (a i : DE) | cnt (a i : DE)
  | call (x : Str) (fr : Bool) (es : List DE) | bi (x : Bi) (es : List DE) | isi (a : DE) (T : Ty)
  | lc (elt : DE) (tg : DT) (k : IK) (args : List DE) (ifs : List DE) (own : List Nat)
  | lc2 (elt : DE) (tg : DT) (k : IK) (args : List DE) (ifs : List DE) (tg1 : DT) (k1 : IK) (args1 : List DE) (ifs1 : List DE) (own : List Nat)
  | dnew | lrg (tp : Bool) (es : List DE) | lcv (elt : DE) (tg : DT) (i : Nat) (ifs : List DE) (own : List Nat)
inductive DS where
  | asg (tg : DT) (e : DE) | new (i : Nat) (e : DE) | par (is : List Nat) (es : List DE) | parN (is : List Nat) (nf : List Bool) (es : List DE)
  | aug (i : Nat) (op : Operator) (e : DE)
  | setix (a i e : DE) | app (a e : DE)
  | expr (e : DE) | ret (e : DE) | retF (e : DE) | retN | pass | brk | cont
  | ife (c : DE) (a b : List DS)
  | for (tg : DT) (k : IK) (args : List DE) (body : List DS)
  | while (c : DE) (body : List DS)
  | never

/-! ### evaluation -/
def lget (ρ : Loc) (i : Nat) : Option Sv := match ρ[i]? with
  | some (some v) => some v
  | _ => none
mutual
def bindT : DT → Sv → Loc → Option Loc
  | .name i, v, ρ => some (ρ.set i (some v))
  | .tup ts, v, ρ => match v with
    | .p (.tup ds) => bindTs ts ds ρ
    | _ => none
termination_by structural x => x
def bindTs : List DT → List D → Loc → Option Loc
  | [], [], ρ => some ρ
  | t :: ts, d :: ds, ρ => match bindT t (.p d) ρ with
    | some ρ' => bindTs ts ds ρ'
    | none => none
  | _, _, _ => none
termination_by structural x => x
end
def wipeρ (ρ : Loc) : List Nat → Loc
  | [] => ρ
  | v :: vs => (wipeρ ρ vs).set v none
/-- without the cells -/
def pureρ (ρ : Loc) : Loc := ρ.map fun o => match o with
  | some (.p d) => some (.p d)
  | _ => none
/-- what is watched while it is walked -/
abbrev Watch := List (Nat × Cell)
def watched (W : Watch) (S : Store) : Bool := W.all fun p => decide (S[p.1]? = some p.2)
@[simp] theorem watched_nil {S : Store} : watched [] S = true := (rfl)
def watchOf (S : Store) : Sv → Watch
  | .p _ => []
  | .c i => match S[i]? with
    | some c => [(i, c)]
    | none => []
@[simp] theorem watchOf_p {S : Store} {d : D} : watchOf S (.p d) = [] := (rfl)
def seqOf : D → Option (List D)
  | .lst xs => some xs
  | .tup xs => some xs
  | _ => none
def rngOK (i : Int) : Prop := -(2 ^ 62) ≤ i ∧ i < 2 ^ 62
instance (i : Int) : Decidable (rngOK i) := inferInstanceAs (Decidable (_ ∧ _))
def rngD (lo : Int) (n : Nat) : List D := (List.range n).map fun k => .int (lo + (k : Nat))
def rngDown (lo : Int) (n : Nat) : List D := (List.range n).map fun k => .int (lo + (k : Nat) * (-1))
def zipD (xs ys : List D) : List D := (xs.zip ys).map fun p => .tup [p.1, p.2]
def enumD (xs : List D) : List D := (xs.zipIdx).map fun p => .tup [.int (p.2 : Nat), p.1]
/-- the items of what is walked -/
def itemsOf (k : IK) (vs : List Sv) (S : Store) : Option (List D × Watch) :=
  match k, vs with
  | .seq, [v] => (der S v).bind fun d => (seqOf d).map fun xs => (xs, watchOf S v)
  | .rng, [.p (.int j)] => if rngOK j then some (rngD 0 j.toNat, []) else none
  | .rng, [.p (.int i), .p (.int j)] => if rngOK i ∧ rngOK j then some (rngD i (j - i).toNat, []) else none
  | .rng, [.p (.int i), .p (.int j), .p (.int c)] => if rngOK i ∧ rngOK j ∧ c = -1 then some (rngDown i (i - j).toNat, []) else none
  | .zip, [v, w] => match der S v, der S w with
    | some (.lst xs), some (.lst ys) => some (zipD xs ys, watchOf S v ++ watchOf S w)
    | some (.tup xs), some (.tup ys) => some (zipD xs ys, [])
    | _, _ => none
  | .enum, [v] => match der S v with
    | some (.lst xs) => some (enumD xs, watchOf S v)
    | _ => none
  | _, _ => none

/-- an expression that makes a new list (or an int ..) -/
def frsh : DE → Bool
  | .bin op _ _ => match op with
    | .Add | .Mult => true
    | _ => false
  | .lst _ => true
  | .sl _ _ _ => true
  | .rev _ => true
  | .call _ fr _ => fr
  | .bi x _ => biFresh x
  | .lc .. => true
  | .lc2 .. => true
  | .dnew => true
  | .lrg .. => true
  | .lcv .. => true
  | _ => false

/-- a list's cell -/
def isLst (S : Store) (j : Nat) : Bool := match S[j]? with
  | some (.lst _) => true
  | _ => false
/-- nothing may be raised -/
def R.nox {α : Type} : R α → R α
  | .ok a S => .ok a S
  | _ => .bad
@[simp] theorem R.nox_ok {α : Type} {a : α} {S : Store} : (R.ok a S).nox = .ok a S := (rfl)
/-- a comprehension's turns -/
def lcL (turn : D → Store → R (Option D)) (W : Watch) : List D → Store → R (List D)
  | [], S => if watched W S then .ok [] S else .bad
  | d :: ds, S => if watched W S then
      (turn d S).nox.bind fun o S1 => (lcL turn W ds S1).bind fun r S2 => .ok (match o with | some y => y :: r | none => r) S2
    else .bad

/-- the turns of a comprehension's first clause, each of many items -/
def lcM (turn : D → Store → R (List D)) (W : Watch) : List D → Store → R (List D)
  | [], S => if watched W S then .ok [] S else .bad
  | d :: ds, S => if watched W S then
      (turn d S).nox.bind fun o S1 => (lcM turn W ds S1).bind fun r S2 => .ok (o ++ r) S2
    else .bad

/-- the ends of a range that is to be a list -/
def rgOf : List Sv → Option (Int × Int)
  | [.p (.int j)] => some (0, j)
  | [.p (.int i), .p (.int j)] => some (i, j)
  | _ => none
def rgOK (a b : Int) : Prop := rngOK a ∧ rngOK b ∧ (b - a).toNat ≤ 16777216
instance (a b : Int) : Decidable (rgOK a b) := inferInstanceAs (Decidable (_ ∧ _))
abbrev CallF := Str → List Sv → Store → R Sv
section
variable (call : CallF)
mutual
def evE : DE → Loc → Store → R Sv
  | .var i, ρ, S => R.of (lget ρ i) S
  | .con d, _, S => .ok (.p d) S
  | .bin op a b, ρ, S => (evE a ρ S).bind fun x S1 => (evE b ρ S1).bind fun y S2 => match der S2 x, der S2 y with
    | some d, some e => R.of ((binD op d e).map .p) S2
    | _, _ => .bad
  | .neg a, ρ, S => (evE a ρ S).bind fun x S1 => match x with
    | .p (.int i) => .ok (.p (.int (-i))) S1
    | _ => .bad
  | .cmp op a b, ρ, S => (evE a ρ S).bind fun x S1 => (evE b ρ S1).bind fun y S2 => match der S2 x, der S2 y with
    | some d, some e => R.of ((cmpD op d e).map fun k => .p (.bl k)) S2
    | _, _ => .bad
  | .chain op op' a b c, ρ, S => (evE a ρ S).bind fun x S1 => (evE b ρ S1).bind fun y S2 => match x, y with
    | .p d, .p e => match cmpD op d e with
      | some true => (evE c ρ S2).bind fun z S3 => match z with
        | .p f => R.of ((cmpD op' e f).map fun k => .p (.bl k)) S3
        | _ => .bad
      | some false => .ok (.p (.bl false)) S2
      | none => .bad
    | _, _ => .bad
  | .and a b, ρ, S => (evE a ρ S).bind fun x S1 => match x with
    | .p (.bl true) => evE b ρ S1
    | .p (.bl false) => .ok (.p (.bl false)) S1
    | _ => .bad
  | .or a b, ρ, S => (evE a ρ S).bind fun x S1 => match x with
    | .p (.bl true) => .ok (.p (.bl true)) S1
    | .p (.bl false) => evE b ρ S1
    | _ => .bad
  | .not a, ρ, S => (evE a ρ S).bind fun x S1 => match x with
    | .p (.bl k) => .ok (.p (.bl (!k))) S1
    | _ => .bad
  | .ife c a b, ρ, S => (evT c ρ S).bind fun k S1 => if k = true then evE a ρ S1 else evE b ρ S1
  | .tup es, ρ, S => (evL es ρ S).bind fun vs S1 => match pures vs with
    | some ds => .ok (.p (.tup ds)) S1
    | none => .bad
  | .lst es, ρ, S => (evL es ρ S).bind fun vs S1 => match pures vs with
    | some ds => .ok (.p (.lst ds)) S1
    | none => .bad
  | .ix a i, ρ, S => (evE a ρ S).bind fun x S1 => (evE i ρ S1).bind fun y S2 => match der S2 x, y with
    | some d, .p e => R.of ((ixD d e).map .p) S2
    | _, _ => .bad
  | .sl a lo hi, ρ, S => (evE a ρ S).bind fun x S1 => (evO lo ρ S1).bind fun l S2 => (evO hi ρ S2).bind fun h S3 => match der S3 x with
    | some d => R.of ((slD d l h).map .p) S3
    | none => .bad
  | .rev a, ρ, S => (evE a ρ S).bind fun x S1 => match der S1 x with
    | some (.lst xs) => .ok (.p (.lst xs.reverse)) S1
    | some (.tup xs) => .ok (.p (.tup xs.reverse)) S1
    | _ => .bad
  | .pop a i, ρ, S => (evE a ρ S).bind fun x S1 => match x with
    | .c j => if isLst S1 j = true then (evE i ρ S1).bind fun y S2 => (match y with
      | .p (.int k) => (match S2[j]? with
        | some (.lst xs) => if -(2 ^ 63) ≤ k ∧ k < 2 ^ 63 then (match L2.ixN xs.length k with
          | some m => (match xs[m]? with
            | some d => .ok (.p d) (S2.set j (.lst (xs.eraseIdx m)))
            | none => .bad)
          | none => .bad) else .bad
        | _ => .bad)
      | _ => .bad) else .bad
    | .p _ => .bad
  | .call x _ es, ρ, S => (evL es ρ S).bind fun vs S1 => call x vs S1
  | .bi x es, ρ, S => (evL es ρ S).bind fun vs S1 => match ders S1 vs with
    | some ds => R.of ((biF x ds).map .p) S1
    | none => .bad
  | .isi a T, ρ, S => (evE a ρ S).bind fun x S1 => match der S1 x with
    | some d => R.of ((isiD d T).map fun k => .p (.bl k)) S1
    | none => .bad
  | .lc elt tg k args ifs own, ρ, S => (evL args ρ S).bind fun vs S1 => match itemsOf k vs S1 with
    | none => .bad
    | some (ds, W) => (lcL (fun d S => match bindT tg (.p d) (wipeρ ρ own) with
        | none => .bad
        | some ρ' => (evTs ifs ρ' S).bind fun t S1 => if t = true then (evE elt ρ' S1).bind fun y S2 => (match y with
            | .p y => .ok (some y) S2
            | .c _ => .bad)
          else .ok none S1) W ds S1).bind fun r S2 => if r.length ≤ sizeLine then .ok (.p (.lst r)) S2 else .bad
  | .lc2 elt tg k args ifs tg1 k1 args1 ifs1 own, ρ, S => (evL args ρ S).bind fun vs S1 => match itemsOf k vs S1 with
    | none => .bad
    | some (ds, W) => (lcM (fun d S => match bindT tg (.p d) (wipeρ ρ own) with
        | none => .bad
        | some ρ' => (evTs ifs ρ' S).bind fun t S1 => if t = true then (evL args1 ρ' S1).bind fun vs1 S2 => (match itemsOf k1 vs1 S2 with
            | none => .bad
            | some (ds1, W1) => lcL (fun d S => match bindT tg1 (.p d) (wipeρ ρ' (DT.slots tg1)) with
              | none => .bad
              | some ρ'' => (evTs ifs1 ρ'' S).bind fun t S1 => if t = true then (evE elt ρ'' S1).bind fun y S2 => (match y with
                | .p y => .ok (some y) S2
                | .c _ => .bad)
              else .ok none S1) W1 ds1 S2)
          else .ok [] S1) W ds S1).bind fun r S2 => if r.length ≤ sizeLine then .ok (.p (.lst r)) S2 else .bad
  | .dnew, _, S => .ok (.p (.dct [] [])) S
  | .lrg tp es, ρ, S => (evL es ρ S).bind fun vs S1 => match rgOf vs with
    | some (a, b) => if rgOK a b then .ok (.p (if tp = true then .tup (rngD a (b - a).toNat) else .lst (rngD a (b - a).toNat))) S1 else .bad
    | none => .bad
  | .lcv elt tg i ifs own, ρ, S => match lget ρ i with
    | some (.c j) => (match S[j]? with
      | some (.dct _ vs) => (match lcL (fun d S => match bindT tg (.p d) (wipeρ (pureρ ρ) own) with
        | none => .bad
        | some ρ' => (evTs ifs ρ' S).bind fun t S1 => if t = true then (evE elt ρ' S1).bind fun y S2 => (match y with
            | .p y => .ok (some y) S2
            | .c _ => .bad)
          else .ok none S1) [] vs [] with
        | .ok r _ => if r.length ≤ sizeLine then .ok (.p (.lst r)) S else .bad
        | _ => .bad)
      | _ => .bad)
    | _ => .bad
  | .idx a i, ρ, S => (evE a ρ S).bind fun x S1 => match x with
    | .p (.lst xs) => (match intsOf xs with
      | some ns => (evE i ρ S1).bind fun y S2 => (match y with
        | .p (.int k) => R.of ((idxI k ns).map fun m => .p (.int (m : Nat))) S2
        | _ => .bad)
      | none => .bad)
    | _ => .bad
  | .cnt a i, ρ, S => (evE a ρ S).bind fun x S1 => match x with
    | .p (.lst xs) => (match intsOf xs with
      | some ns => (evE i ρ S1).bind fun y S2 => (match y with
        | .p (.int k) => .ok (.p (.int ((ns.count k : Nat) : Int))) S2
        | _ => .bad)
      | none => .bad)
    | _ => .bad
termination_by structural x => x
/-- as a test -/
def evT : DE → Loc → Store → R Bool
  | .and a b, ρ, S => (evT a ρ S).bind fun k S1 => if k = true then evT b ρ S1 else .ok false S1
  | .or a b, ρ, S => (evT a ρ S).bind fun k S1 => if k = true then .ok true S1 else evT b ρ S1
  | .not a, ρ, S => (evT a ρ S).bind fun k S1 => .ok (!k) S1
  | .ife c a b, ρ, S => (evT c ρ S).bind fun k S1 => if k = true then evT a ρ S1 else evT b ρ S1
  | .var i, ρ, S => (R.of (lget ρ i) S).bind fun x S1 => R.of ((der S1 x).bind truD) S1
  | .con d, _, S => R.of (truD d) S
  | .cmp op a b, ρ, S => (evE a ρ S).bind fun x S1 => (evE b ρ S1).bind fun y S2 => match der S2 x, der S2 y with
    | some d, some e => R.of (cmpD op d e) S2
    | _, _ => .bad
  | .chain op op' a b c, ρ, S => (evE a ρ S).bind fun x S1 => (evE b ρ S1).bind fun y S2 => match x, y with
    | .p d, .p e => match cmpD op d e with
      | some true => (evE c ρ S2).bind fun z S3 => match z with
        | .p f => R.of (cmpD op' e f) S3
        | _ => .bad
      | some false => .ok false S2
      | none => .bad
    | _, _ => .bad
  | .call x _ es, ρ, S => (evL es ρ S).bind fun vs S1 => (call x vs S1).bind fun x S2 => R.of ((der S2 x).bind truD) S2
  | .bi x es, ρ, S => (evL es ρ S).bind fun vs S1 => match ders S1 vs with
    | some ds => R.of ((biF x ds).bind truD) S1
    | none => .bad
  | .isi a T, ρ, S => (evE a ρ S).bind fun x S1 => match der S1 x with
    | some d => R.of (isiD d T) S1
    | none => .bad
  | .ix a i, ρ, S => (evE a ρ S).bind fun x S1 => (evE i ρ S1).bind fun y S2 => match der S2 x, y with
    | some d, .p e => R.of ((ixD d e).bind truD) S2
    | _, _ => .bad
  | .bin op a b, ρ, S => (evE a ρ S).bind fun x S1 => (evE b ρ S1).bind fun y S2 => match der S2 x, der S2 y with
    | some d, some e => R.of ((binD op d e).bind truD) S2
    | _, _ => .bad
  | _, _, _ => .bad
termination_by structural x => x
def evL : List DE → Loc → Store → R (List Sv)
  | [], _, S => .ok [] S
  | e :: es, ρ, S => (evE e ρ S).bind fun v S1 => (evL es ρ S1).bind fun vs S2 => .ok (v :: vs) S2
termination_by structural x => x
def evO : Option DE → Loc → Store → R (Option Int)
  | none, _, S => .ok none S
  | some e, ρ, S => (evE e ρ S).bind fun v S1 => match v with
    | .p (.int i) => .ok (some i) S1
    | _ => .bad
termination_by structural x => x
def evTs : List DE → Loc → Store → R Bool
  | [], _, S => .ok true S
  | e :: es, ρ, S => (evT e ρ S).bind fun k S1 => if k = true then evTs es ρ S1 else .ok false S1
termination_by structural x => x
end
end

/-- a statement's end -/
inductive SR where
  | nx (ρ : Loc) (S : Store) | ret (v : Sv) (S : Store) | bk (ρ : Loc) (S : Store) | ct (ρ : Loc) (S : Store)
  | exc (x : Xc) (ρ : Loc) (S : Store) | bad
/-- behind an expression -/
def R.st {α : Type} (r : R α) (ρ : Loc) (f : α → Store → SR) : SR :=
  match r with
  | .ok a S => f a S
  | .exc x S => .exc x ρ S
  | .bad => .bad
@[simp] theorem R.st_ok {α : Type} {a : α} {S : Store} {ρ : Loc} {f : α → Store → SR} : (R.ok a S).st ρ f = f a S := (rfl)
@[simp] theorem R.st_exc {α : Type} {x : Xc} {S : Store} {ρ : Loc} {f : α → Store → SR} : (R.exc x S : R α).st ρ f = .exc x ρ S := (rfl)
@[simp] theorem R.st_bad {α : Type} {ρ : Loc} {f : α → Store → SR} : (R.bad : R α).st ρ f = .bad := (rfl)
def SR.of (o : Option Loc) (S : Store) : SR :=
  match o with
  | some ρ => .nx ρ S
  | none => .bad
@[simp] theorem SR.of_some {ρ : Loc} {S : Store} : SR.of (some ρ) S = .nx ρ S := (rfl)
@[simp] theorem SR.of_none {S : Store} : SR.of none S = .bad := (rfl)
/-- one statement behind another -/
def SR.seq (r : SR) (f : Loc → Store → SR) : SR :=
  match r with
  | .nx ρ S => f ρ S
  | r => r
@[simp] theorem SR.seq_nx {ρ : Loc} {S : Store} {f : Loc → Store → SR} : (SR.nx ρ S).seq f = f ρ S := (rfl)
@[simp] theorem SR.seq_ret {v : Sv} {S : Store} {f : Loc → Store → SR} : (SR.ret v S).seq f = .ret v S := (rfl)
@[simp] theorem SR.seq_bk {ρ : Loc} {S : Store} {f : Loc → Store → SR} : (SR.bk ρ S).seq f = .bk ρ S := (rfl)
@[simp] theorem SR.seq_ct {ρ : Loc} {S : Store} {f : Loc → Store → SR} : (SR.ct ρ S).seq f = .ct ρ S := (rfl)
@[simp] theorem SR.seq_exc {x : Xc} {ρ : Loc} {S : Store} {f : Loc → Store → SR} : (SR.exc x ρ S).seq f = .exc x ρ S := (rfl)
@[simp] theorem SR.seq_bad {f : Loc → Store → SR} : (SR.bad).seq f = .bad := (rfl)
/-- behind a loop's turn -/
def SR.turn (r : SR) (f : Loc → Store → SR) : SR :=
  match r with
  | .nx ρ S => f ρ S
  | .ct ρ S => f ρ S
  | .bk ρ S => .nx ρ S
  | r => r
@[simp] theorem SR.turn_nx {ρ : Loc} {S : Store} {f : Loc → Store → SR} : (SR.nx ρ S).turn f = f ρ S := (rfl)
@[simp] theorem SR.turn_ct {ρ : Loc} {S : Store} {f : Loc → Store → SR} : (SR.ct ρ S).turn f = f ρ S := (rfl)
@[simp] theorem SR.turn_bk {ρ : Loc} {S : Store} {f : Loc → Store → SR} : (SR.bk ρ S).turn f = .nx ρ S := (rfl)
@[simp] theorem SR.turn_ret {v : Sv} {S : Store} {f : Loc → Store → SR} : (SR.ret v S).turn f = .ret v S := (rfl)
@[simp] theorem SR.turn_exc {x : Xc} {ρ : Loc} {S : Store} {f : Loc → Store → SR} : (SR.exc x ρ S).turn f = .exc x ρ S := (rfl)
@[simp] theorem SR.turn_bad {f : Loc → Store → SR} : (SR.bad).turn f = .bad := (rfl)

/-- a new list becomes a cell, if it is to -/
def ownV (b fr : Bool) (v : Sv) (S : Store) : Option (Sv × Store) :=
  match b, v with
  | true, .p (.lst xs) => if fr then some (.c S.length, S ++ [.lst xs]) else none
  | true, .p (.dct ks vs) => if fr then some (.c S.length, S ++ [.dct ks vs]) else none
  | _, v => some (v, S)
def evN (call : CallF) : List Bool → List DE → Loc → Store → R (List Sv)
  | [], [], _, S => .ok [] S
  | b :: bs, e :: es, ρ, S => (evE call e ρ S).bind fun v S1 => match ownV b (frsh e) v S1 with
    | some p => (evN call bs es ρ p.2).bind fun vs S3 => .ok (p.1 :: vs) S3
    | none => .bad
  | _, _, _, _ => .bad
def forL (tg : DT) (body : Loc → Store → SR) (W : Watch) : List D → Loc → Store → SR
  | [], ρ, S => if watched W S then .nx ρ S else .bad
  | d :: ds, ρ, S => if watched W S then (match bindT tg (.p d) ρ with
      | some ρ' => (body ρ' S).turn fun ρ S => forL tg body W ds ρ S
      | none => .bad) else .bad
def whileL (c : Loc → Store → R Bool) (body : Loc → Store → SR) : Nat → Loc → Store → SR
  | 0, _, _ => .bad
  | n + 1, ρ, S => (c ρ S).st ρ fun k S1 => if k = true then (body ρ S1).turn fun ρ S => whileL c body n ρ S else .nx ρ S1

section
variable (call : CallF) (wf : Nat)
mutual
def evS : DS → Loc → Store → SR
  | .asg tg e, ρ, S => (evE call e ρ S).st ρ fun v S1 => SR.of (bindT tg v ρ) S1
  | .new i e, ρ, S => (evE call e ρ S).st ρ fun v S1 => match v with
    | .p (.lst xs) => if frsh e then .nx (ρ.set i (some (.c S1.length))) (S1 ++ [.lst xs]) else .bad
    | .p (.dct ks vs) => if frsh e then .nx (ρ.set i (some (.c S1.length))) (S1 ++ [.dct ks vs]) else .bad
    | v => .nx (ρ.set i (some v)) S1
  | .par is es, ρ, S => (evL call es ρ S).st ρ fun vs S1 => if is.length = vs.length then .nx ((is.zip vs).foldl (fun ρ p => ρ.set p.1 (some p.2)) ρ) S1 else .bad
  | .parN is nf es, ρ, S => (evN call nf es ρ S).st ρ fun vs S1 => if is.length = vs.length then .nx ((is.zip vs).foldl (fun ρ p => ρ.set p.1 (some p.2)) ρ) S1 else .bad
  | .aug i op e, ρ, S => match lget ρ i with
    | some (.p d) => (evE call e ρ S).st ρ fun v S1 => match v with
      | .p e => (match d, e, binD op d e with
        | .int _, .int _, some r => .nx (ρ.set i (some (.p r))) S1
        | _, _, _ => .bad)
      | _ => .bad
    | _ => .bad
  | .setix a i e, ρ, S => (evE call e ρ S).st ρ fun v S1 => (evE call a ρ S1).st ρ fun x S2 => (evE call i ρ S2).st ρ fun y S3 => match v, x, y with
    | .p d, .c j, .p e => (match S3[j]? with
      | some (.lst xs) => (match e with
        | .int k => (match L2.ixN xs.length k with
          | some m => .nx ρ (S3.set j (.lst (xs.set m d)))
          | none => .bad)
        | _ => .bad)
      | some (.dct ks vs) => (match keyOf e with
        | some k => if ks.length < sizeLine then (match dput ks vs k d with
          | (ks', vs') => .nx ρ (S3.set j (.dct ks' vs'))) else .bad
        | none => .bad)
      | _ => .bad)
    | _, _, _ => .bad
  | .app a e, ρ, S => (evE call a ρ S).st ρ fun x S1 => match x with
    | .c j => if isLst S1 j = true then (evE call e ρ S1).st ρ fun v S2 => (match v with
      | .p d => (match S2[j]? with
        | some (.lst xs) => if xs.length < sizeLine then .nx ρ (S2.set j (.lst (xs ++ [d]))) else .bad
        | _ => .bad)
      | .c _ => .bad) else .bad
    | .p _ => .bad
  | .expr e, ρ, S => (evE call e ρ S).st ρ fun _ S1 => .nx ρ S1
  | .ret e, ρ, S => (evE call e ρ S).st ρ fun v S1 => .ret v S1
  | .retF e, ρ, S => (evE call e ρ S).st ρ fun v S1 => match v with
    | .p d => if frsh e then .ret (.p d) S1 else .bad
    | .c i => .ret (.c i) S1
  | .retN, _, S => .ret (.p .non) S
  | .pass, ρ, S => .nx ρ S
  | .brk, ρ, S => .bk ρ S
  | .cont, ρ, S => .ct ρ S
  | .ife c a b, ρ, S => (evT call c ρ S).st ρ fun k S1 => if k = true then evB a ρ S1 else evB b ρ S1
  | .for tg k args body, ρ, S => (evL call args ρ S).st ρ fun vs S1 => match itemsOf k vs S1 with
    | some (ds, W) => forL tg (evB body) W ds ρ S1
    | none => .bad
  | .while c body, ρ, S => whileL (evT call c) (evB body) wf ρ S
  | .never, _, _ => .bad
termination_by structural x => x
def evB : List DS → Loc → Store → SR
  | [], ρ, S => .nx ρ S
  | s :: ss, ρ, S => (evS s ρ S).seq fun ρ S => evB ss ρ S
termination_by structural x => x
end
end

/-- a def: its number of parameters, of names, whether what it hands back is new, its body -/
structure Df where
  ps : Nat
  ns : Nat
  fr : Bool
  body : List DS
def finish (fr : Bool) (n : Nat) (v : Sv) (S : Store) : R Sv :=
  match v with
  | .p d => .ok (.p d) (S.take n)
  | .c i => if i < n then (if fr then .bad else .ok (.c i) (S.take n)) else match S[i]? with
    | some (.lst xs) => .ok (.p (.lst xs)) (S.take n)
    | _ => .bad
def finishR (fr : Bool) (n : Nat) : SR → R Sv
  | .nx _ S => .ok (.p .non) (S.take n)
  | .ret v S => finish fr n v S
  | .exc x _ S => .exc x (S.take n)
  | _ => .bad
def runDef (call : CallF) (wf : Nat) (d : Df) (vs : List Sv) (S : Store) : R Sv :=
  if vs.length = d.ps then finishR d.fr S.length (evB call wf d.body (vs.map some ++ List.replicate (d.ns - d.ps) none) S) else .bad
/-- the defs of a text -/
abbrev Tab := List (Str × Df)
def callF (T : Tab) (wf : Nat) : Nat → CallF
  | 0 => fun _ _ _ => .bad
  | k + 1 => fun x vs S => match T.lookup x with
    | some d => runDef (callF T wf k) wf d vs S
    | none => .bad
end DV

set_option Elab.async false
set_option linter.all false
set_option maxRecDepth 100000
set_option maxHeartbeats 4000000
/-! DV2: how values without a heap lie on the heap; operators. -/
namespace DV
open PySem PySem.Spec PyProof.Rows L2

/-! ### what a value stands for -/
def Le (F H : Hp) : Prop := ∀ a o, F a = some o → H a = some o
theorem Le.refl (F : Hp) : Le F F := fun _ _ h => h
theorem Le.trans {F G H : Hp} (a : Le F G) (b : Le G H) : Le F H := fun c o h => b c o (a c o h)
theorem Le.upd {F : Hp} {p : Addr} {o : HO} (h : F p = none) : Le F (upd F p o) := fun b u e => by rw [upd_ne (ne_of_none e h)]; exact e
theorem Le.rd {F H : Hp} (l : Le F H) {a : Addr} {u : HO} (r : Rd F a u) : Rd H a u := by
  rcases r with r | ⟨o, r⟩
  · exact .inl (l _ _ r)
  · exact .inr ⟨o, l _ _ r⟩
theorem Le.sqL {K : PySem.W.Frag} {F H : Hp} (l : Le F H) {a : Addr} {xs : List V} (r : SqL K F a xs) : SqL K H a xs := r.imp l.rd id
theorem Le.sqT {K : PySem.W.Frag} {F H : Hp} (l : Le F H) {a : Addr} {xs : List V} (r : SqT K F a xs) : SqT K H a xs := r.imp l.rd id

section
variable (K : PySem.W.Frag) (F : Hp)
mutual
def Rep : D → V → Prop
  | .non, x => x = .non
  | .bl b, x => x = .bl b
  | .int i, x => x = .int i
  | .str s, x => x = .str s
  | .tup ds, x => ∃ a vs, x = .ref a ∧ SqT K F a vs ∧ Reps ds vs
  | .lst ds, x => ∃ a vs, x = .ref a ∧ F a = some (.lst vs) ∧ Reps ds vs
  | .scr ns, x => ∃ a, x = .ref a ∧ SqL K F a (ns.map V.int)
  | .fn _, _ => False
  | .dct ks vs, x => ∃ a kvs, x = .ref a ∧ F a = some (.dK kvs) ∧ kvs.map (·.1) = ks ∧ Reps vs (kvs.map (·.2))
termination_by structural x => x
def Reps : List D → List V → Prop
  | [], xs => xs = []
  | d :: ds, xs => ∃ v vs, xs = v :: vs ∧ Rep d v ∧ Reps ds vs
termination_by structural x => x
end
end
section
variable {K : PySem.W.Frag} {F G : Hp}
mutual
theorem Rep.mono (l : Le F G) : ∀ {d : D} {x : V}, Rep K F d x → Rep K G d x
  | .non, _, h => h
  | .bl _, _, h => h
  | .int _, _, h => h
  | .str _, _, h => h
  | .tup ds, _, ⟨a, vs, e, s, r⟩ => ⟨a, vs, e, l.sqT s, Reps.mono l r⟩
  | .lst ds, _, ⟨a, vs, e, s, r⟩ => ⟨a, vs, e, l _ _ s, Reps.mono l r⟩
  | .scr ns, _, ⟨a, e, s⟩ => ⟨a, e, l.sqL s⟩
  | .dct _ vs, _, ⟨a, kvs, e, s, h, r⟩ => ⟨a, kvs, e, l _ _ s, h, Reps.mono l r⟩
theorem Reps.mono (l : Le F G) : ∀ {ds : List D} {xs : List V}, Reps K F ds xs → Reps K G ds xs
  | [], _, h => h
  | d :: ds, _, ⟨v, vs, e, h, r⟩ => ⟨v, vs, e, Rep.mono l h, Reps.mono l r⟩
end
theorem Reps.nil : Reps K F [] [] := rfl
theorem Reps.cons {d : D} {v : V} {ds : List D} {vs : List V} (h : Rep K F d v) (r : Reps K F ds vs) : Reps K F (d :: ds) (v :: vs) := ⟨v, vs, rfl, h, r⟩
theorem Reps.length : ∀ {ds : List D} {vs : List V}, Reps K F ds vs → vs.length = ds.length
  | [], _, h => by cases h; rfl
  | d :: ds, _, ⟨v, vs, e, h, r⟩ => by subst e; simp [Reps.length r]
theorem Reps.append : ∀ {ds es : List D} {vs ws : List V}, Reps K F ds vs → Reps K F es ws → Reps K F (ds ++ es) (vs ++ ws)
  | [], _, _, _, h, k => by cases h; exact k
  | d :: ds, _, _, _, ⟨v, vs, e, h, r⟩, k => by subst e; exact Reps.cons h (Reps.append r k)
theorem Reps.reverse : ∀ {ds : List D} {vs : List V}, Reps K F ds vs → Reps K F ds.reverse vs.reverse
  | [], _, h => by cases h; exact rfl
  | d :: ds, _, ⟨v, vs, e, h, r⟩ => by
    subst e
    rw [List.reverse_cons, List.reverse_cons]
    exact Reps.append (Reps.reverse r) (Reps.cons h rfl)
theorem Reps.eraseIdx : ∀ {ds : List D} {vs : List V} (i : Nat), Reps K F ds vs → Reps K F (ds.eraseIdx i) (vs.eraseIdx i)
  | [], _, _, h => by cases h; exact rfl
  | d :: ds, _, 0, ⟨v, vs, e, h, r⟩ => by subst e; exact r
  | d :: ds, _, i + 1, ⟨v, vs, e, h, r⟩ => by subst e; exact Reps.cons h (Reps.eraseIdx i r)
theorem Reps.get : ∀ {ds : List D} {vs : List V} {i : Nat} {d : D}, Reps K F ds vs → ds[i]? = some d → ∃ v, vs[i]? = some v ∧ Rep K F d v
  | [], _, _, _, _, e => by simp at e
  | d :: ds, _, 0, _, ⟨v, vs, ev, h, r⟩, e => by subst ev; simp at e; subst e; exact ⟨v, rfl, h⟩
  | d :: ds, _, i + 1, _, ⟨v, vs, ev, h, r⟩, e => by
    subst ev
    obtain ⟨w, h1, h2⟩ := Reps.get (i := i) r (by simpa using e)
    exact ⟨w, by simpa using h1, h2⟩
theorem Reps.getV : ∀ {ds : List D} {vs : List V} {i : Nat} {v : V}, Reps K F ds vs → vs[i]? = some v → ∃ d, ds[i]? = some d ∧ Rep K F d v := fun {ds vs i v} r e => by
  obtain ⟨h, e1⟩ := List.getElem?_eq_some_iff.mp e
  have hl := r.length
  have h2 : i < ds.length := by omega
  obtain ⟨w, e2, q⟩ := r.get (List.getElem?_eq_getElem h2)
  rw [e] at e2; cases e2
  exact ⟨_, List.getElem?_eq_getElem h2, q⟩
theorem Reps.set : ∀ {ds : List D} {vs : List V} {i : Nat} {d : D} {v : V}, Reps K F ds vs → Rep K F d v → Reps K F (ds.set i d) (vs.set i v)
  | [], _, _, _, _, h, _ => by cases h; exact rfl
  | d :: ds, _, 0, _, _, ⟨v, vs, e, h, r⟩, k => by subst e; exact Reps.cons k r
  | d :: ds, _, i + 1, _, _, ⟨v, vs, e, h, r⟩, k => by subst e; exact Reps.cons h (Reps.set (i := i) r k)
theorem Reps.drop : ∀ {ds : List D} {vs : List V} (n : Nat), Reps K F ds vs → Reps K F (ds.drop n) (vs.drop n)
  | _, _, 0, h => h
  | [], _, n + 1, h => by cases h; exact rfl
  | d :: ds, _, n + 1, ⟨v, vs, e, h, r⟩ => by subst e; exact Reps.drop n r
theorem Reps.take : ∀ {ds : List D} {vs : List V} (n : Nat), Reps K F ds vs → Reps K F (ds.take n) (vs.take n)
  | _, _, 0, h => by rw [List.take_zero, List.take_zero]; exact rfl
  | [], _, n + 1, h => by cases h; exact rfl
  | d :: ds, _, n + 1, ⟨v, vs, e, h, r⟩ => by subst e; exact Reps.cons h (Reps.take n r)
theorem Reps.rep {ds : List D} {vs : List V} (h : Reps K F ds vs) : ∀ n : Nat, Reps K F (List.replicate n ds).flatten (List.replicate n vs).flatten
  | 0 => rfl
  | n + 1 => by rw [List.replicate_succ, List.replicate_succ, List.flatten_cons, List.flatten_cons]; exact h.append (h.rep n)
theorem Reps.ints : ∀ {ds : List D} {vs : List V} {ns : List Int}, Reps K F ds vs → intsOf ds = some ns → vs = ns.map V.int
  | [], _, _, h, e => by cases h; simp [intsOf] at e; subst e; rfl
  | .int i :: ds, _, _, ⟨v, vs, ev, h, r⟩, e => by
    simp only [intsOf, Option.map_eq_some_iff] at e
    obtain ⟨ns, e1, rfl⟩ := e
    subst ev
    rw [Reps.ints r e1]
    cases (show v = .int i from h)
    rfl
  | .non :: _, _, _, _, e => by simp [intsOf] at e
  | .bl _ :: _, _, _, _, e => by simp [intsOf] at e
  | .str _ :: _, _, _, _, e => by simp [intsOf] at e
  | .tup _ :: _, _, _, _, e => by simp [intsOf] at e
  | .lst _ :: _, _, _, _, e => by simp [intsOf] at e
  | .scr _ :: _, _, _, _, e => by simp [intsOf] at e
  | .fn _ :: _, _, _, _, e => by simp [intsOf] at e
  | .dct _ _ :: _, _, _, _, e => by simp [intsOf] at e
theorem Reps.ofInts : ∀ (ns : List Int), Reps K F (ns.map D.int) (ns.map V.int)
  | [] => rfl
  | n :: ns => Reps.cons rfl (Reps.ofInts ns)
theorem Reps.bls : ∀ {ds : List D} {vs : List V} {ns : List Bool}, Reps K F ds vs → blsOf ds = some ns → vs = ns.map V.bl
  | [], _, _, h, e => by cases h; simp [blsOf] at e; subst e; rfl
  | .bl i :: ds, _, _, ⟨v, vs, ev, h, r⟩, e => by
    simp only [blsOf, Option.map_eq_some_iff] at e
    obtain ⟨ns, e1, rfl⟩ := e
    subst ev
    rw [Reps.bls r e1]
    cases (show v = .bl i from h)
    rfl
  | .non :: _, _, _, _, e => by simp [blsOf] at e
  | .int _ :: _, _, _, _, e => by simp [blsOf] at e
  | .str _ :: _, _, _, _, e => by simp [blsOf] at e
  | .tup _ :: _, _, _, _, e => by simp [blsOf] at e
  | .lst _ :: _, _, _, _, e => by simp [blsOf] at e
  | .scr _ :: _, _, _, _, e => by simp [blsOf] at e
  | .fn _ :: _, _, _, _, e => by simp [blsOf] at e
  | .dct _ _ :: _, _, _, _, e => by simp [blsOf] at e
mutual
theorem Rep.dp (l : Le F G) : ∀ {d : D} {x : V} {p : PyData}, Rep K F d x → toPy d = some p → Dp K G x p
  | .non, _, _, h, e => by cases (show _ = V.non from h); simp [toPy] at e; subst e; exact .non
  | .bl b, _, _, h, e => by cases (show _ = V.bl b from h); simp [toPy] at e; subst e; exact .bl b
  | .int i, _, _, h, e => by cases (show _ = V.int i from h); simp [toPy] at e; subst e; exact .int i
  | .str s, _, _, h, e => by cases (show _ = V.str s from h); simp [toPy] at e; subst e; exact .str s
  | .tup ds, _, _, ⟨a, vs, ev, s, r⟩, e => by
    subst ev
    simp only [toPy, Option.map_eq_some_iff] at e
    obtain ⟨ps, e1, rfl⟩ := e
    exact .tup (l.sqT s) (Reps.dp l r e1)
  | .lst ds, _, _, ⟨a, vs, ev, s, r⟩, e => by
    subst ev
    simp only [toPy, Option.map_eq_some_iff] at e
    obtain ⟨ps, e1, rfl⟩ := e
    exact .lst (.of (l _ _ s)) (Reps.dp l r e1)
  | .scr _, _, _, _, e => by simp [toPy] at e
  | .fn _, _, _, h, _ => h.elim
  | .dct _ _, _, _, _, e => by simp [toPy] at e
theorem Reps.dp (l : Le F G) : ∀ {ds : List D} {vs : List V} {ps : List PyData}, Reps K F ds vs → toPys ds = some ps → DpAll K G vs ps
  | [], _, _, h, e => by cases h; simp [toPys] at e; subst e; exact .nil
  | d :: ds, _, _, ⟨v, vs, ev, h, r⟩, e => by
    subst ev
    simp only [toPys] at e
    cases e1 : toPy d with
    | none => rw [e1] at e; cases e
    | some p =>
      rw [e1] at e
      simp only [Option.map_eq_some_iff] at e
      obtain ⟨ps, e2, rfl⟩ := e
      exact .cons (Rep.dp l h e1) (Reps.dp l r e2)
end
end

/-! ### the state -/
/-- what may be changed (the cells' addresses, in order), what is guarded (objects that are not to change) -/
structure Fp where
  cs : List Addr
  P : Hp
def Fp.ext (μ : Fp) (ν : List Addr) : Fp := ⟨μ.cs ++ ν, μ.P⟩
def Fp.take (μ : Fp) (n : Nat) : Fp := ⟨μ.cs.take n, μ.P⟩
/-- the same cells first -/
def Fp.pre (μ μ' : Fp) : Prop := ∃ ν, μ'.cs = μ.cs ++ ν
theorem Fp.pre.refl (μ : Fp) : μ.pre μ := ⟨[], by simp⟩
theorem Fp.pre.trans {μ μ' μ'' : Fp} (a : μ.pre μ') (b : μ'.pre μ'') : μ.pre μ'' := by
  obtain ⟨x, e⟩ := a
  obtain ⟨y, e'⟩ := b
  exact ⟨x ++ y, by rw [e', e, List.append_assoc]⟩
theorem Fp.pre.get {μ μ' : Fp} (p : μ.pre μ') {i : Nat} {a : Addr} (h : μ.cs[i]? = some a) : μ'.cs[i]? = some a := by
  obtain ⟨ν, e⟩ := p
  rw [e, List.getElem?_append_left (List.getElem?_eq_some_iff.mp h).1]; exact h
def RepS (K : PySem.W.Frag) (F : Hp) (μ : Fp) : Sv → V → Prop
  | .p d, x => Rep K F d x
  | .c i, x => ∃ a, μ.cs[i]? = some a ∧ x = .ref a
theorem RepS.mono {K : PySem.W.Frag} {F G : Hp} {μ : Fp} (l : Le F G) : ∀ {v : Sv} {x : V}, RepS K F μ v x → RepS K G μ v x
  | .p _, _, h => Rep.mono l h
  | .c _, _, h => h
theorem RepS.pre {K : PySem.W.Frag} {F : Hp} {μ μ' : Fp} (p : μ.pre μ') : ∀ {v : Sv} {x : V}, RepS K F μ v x → RepS K F μ' v x
  | .p _, _, h => h
  | .c i, _, ⟨a, h, e⟩ => ⟨a, p.get h, e⟩
def RepSs (K : PySem.W.Frag) (F : Hp) (μ : Fp) : List Sv → List V → Prop
  | [], xs => xs = []
  | d :: ds, xs => ∃ v vs, xs = v :: vs ∧ RepS K F μ d v ∧ RepSs K F μ ds vs
theorem RepSs.mono {K : PySem.W.Frag} {F G : Hp} {μ : Fp} (l : Le F G) : ∀ {vs : List Sv} {xs : List V}, RepSs K F μ vs xs → RepSs K G μ vs xs
  | [], _, h => h
  | _ :: _, _, ⟨v, vs, e, h, r⟩ => ⟨v, vs, e, h.mono l, RepSs.mono l r⟩
theorem RepSs.length {K : PySem.W.Frag} {F : Hp} {μ : Fp} : ∀ {ds : List Sv} {vs : List V}, RepSs K F μ ds vs → vs.length = ds.length
  | [], _, h => by cases h; rfl
  | d :: ds, _, ⟨v, vs, e, h, r⟩ => by subst e; simp [RepSs.length r]
theorem RepSs.pures {K : PySem.W.Frag} {F : Hp} {μ : Fp} : ∀ {vs : List Sv} {xs : List V} {ds : List D}, RepSs K F μ vs xs → pures vs = some ds → Reps K F ds xs
  | [], _, _, h, e => by cases h; simp [DV.pures] at e; subst e; rfl
  | .p d :: vs, _, _, ⟨v, xs, ev, h, r⟩, e => by
    subst ev
    simp only [DV.pures, Option.map_eq_some_iff] at e
    obtain ⟨ds, e1, rfl⟩ := e
    exact Reps.cons h (RepSs.pures r e1)
  | .c _ :: _, _, _, _, e => by simp [DV.pures] at e

def CellIs (K : PySem.W.Frag) (F H : Hp) (a : Addr) : Cell → Prop
  | .lst ds => ∃ vs, H a = some (.lst vs) ∧ Reps K F ds vs
  | .dct ks vs => ∃ kvs, H a = some (.dK kvs) ∧ kvs.map (·.1) = ks ∧ Reps K F vs (kvs.map (·.2))
theorem CellIs.some {K : PySem.W.Frag} {F H : Hp} {a : Addr} : ∀ {c : Cell}, CellIs K F H a c → ∃ o, H a = some o
  | .lst _, ⟨_, h, _⟩ => ⟨_, h⟩
  | .dct _ _, ⟨_, h, _⟩ => ⟨_, h⟩
/-- the cell's object is the same, more is frozen -/
theorem CellIs.keep {K : PySem.W.Frag} {F G H H' : Hp} {a : Addr} (l : Le F G) (h : H' a = H a) : ∀ {c : Cell}, CellIs K F H a c → CellIs K G H' a c
  | .lst _, ⟨vs, q1, q2⟩ => ⟨vs, h.trans q1, q2.mono l⟩
  | .dct _ _, ⟨kvs, q1, q2, q3⟩ => ⟨kvs, h.trans q1, q2, q3.mono l⟩
structure Mh (K : PySem.W.Frag) (H : Hp) (S : Store) (F : Hp) (μ : Fp) : Prop where
  sub : Le F H
  mlen : μ.cs.length = S.length
  cell : ∀ (i : Nat) (a : Addr) (c : Cell), μ.cs[i]? = some a → S[i]? = some c → CellIs K F H a c
  nd : μ.cs.Nodup
  off : ∀ a ∈ μ.cs, F a = none
  gd : Le μ.P H
  gf : ∀ a o, μ.P a = some o → F a = none ∧ a ∉ μ.cs
structure Ml (K : PySem.W.Frag) (σ : L2.St) (ρ : Loc) (F : Hp) (μ : Fp) : Prop where
  len : ρ.length = σ.length
  loc : ∀ (i : Nat) (v : Sv), ρ[i]? = some (some v) → ∃ x, σ[i]? = some (some x) ∧ RepS K F μ v x
section
variable {K : PySem.W.Frag} {H H' : Hp} {S : Store} {F G : Hp} {μ μ' : Fp} {σ : L2.St} {ρ : Loc}
theorem Ml.mono (m : Ml K σ ρ F μ) (l : Le F G) : Ml K σ ρ G μ := ⟨m.len, fun i v e => let ⟨x, e1, r⟩ := m.loc i v e; ⟨x, e1, r.mono l⟩⟩
theorem Ml.pre (m : Ml K σ ρ F μ) (p : μ.pre μ') : Ml K σ ρ F μ' := ⟨m.len, fun i v e => let ⟨x, e1, r⟩ := m.loc i v e; ⟨x, e1, r.pre p⟩⟩
theorem Ml.get (m : Ml K σ ρ F μ) {i : Nat} {v : Sv} (e : lget ρ i = some v) : ∃ x, σ[i]? = some (some x) ∧ RepS K F μ v x := by
  unfold lget at e
  split at e
  · rename_i w q; cases e; exact m.loc i _ q
  · cases e
theorem Ml.set (m : Ml K σ ρ F μ) {i : Nat} {v : Sv} {x : V} (r : RepS K F μ v x) : Ml K (σ.set i (some x)) (ρ.set i (some v)) F μ := by
  refine ⟨by simp [m.len], fun j w e => ?_⟩
  by_cases h : i = j
  · subst h
    have hl : i < ρ.length := by
      have := (List.getElem?_eq_some_iff.mp e).1
      simpa using this
    rw [List.getElem?_set_self hl] at e
    cases e
    exact ⟨x, by rw [List.getElem?_set_self (by rw [← m.len]; exact hl)], r⟩
  · rw [List.getElem?_set_ne h] at e ⊢
    exact m.loc j w e
theorem Ml.wipe (m : Ml K σ ρ F μ) : ∀ own : List Nat, Ml K (wipe σ own) (wipeρ ρ own) F μ
  | [] => m
  | v :: vs => by
    have ih := m.wipe vs
    refine ⟨by simp [L2.wipe, wipeρ, ih.len], fun j w e => ?_⟩
    unfold wipeρ at e
    unfold L2.wipe
    by_cases h : v = j
    · subst h
      by_cases hl : v < (wipeρ ρ vs).length
      · rw [List.getElem?_set_self hl] at e; cases e
      · rw [List.getElem?_eq_none (by simpa using hl)] at e; cases e
    · rw [List.getElem?_set_ne h] at e ⊢
      exact ih.loc j w e
theorem Mh.there (m : Mh K H S F μ) {a : Addr} (h : a ∈ μ.cs) : ∃ o, H a = some o := by
  obtain ⟨i, hi⟩ := List.mem_iff_getElem?.mp h
  have hl : i < S.length := by rw [← m.mlen]; exact (List.getElem?_eq_some_iff.mp hi).1
  exact (m.cell i a _ hi (List.getElem?_eq_getElem hl)).some
theorem Mh.thereL (m : Mh K H S F μ) {i : Nat} {a : Addr} (h : μ.cs[i]? = some a) (e : isLst S i = true) : ∃ vs, H a = some (.lst vs) := by
  unfold isLst at e
  split at e
  · rename_i xs q
    obtain ⟨vs, q1, _⟩ := m.cell i a _ h q
    exact ⟨vs, q1⟩
  · cases e
theorem Mh.notin (m : Mh K H S F μ) {p : Addr} (h : H p = none) : p ∉ μ.cs := fun hp => by
  obtain ⟨vs, e⟩ := m.there hp
  rw [h] at e; cases e
theorem Mh.noneF (m : Mh K H S F μ) {p : Addr} (h : H p = none) : F p = none := by
  cases e : F p with
  | none => rfl
  | some u => rw [m.sub _ _ e] at h; cases h
theorem Mh.noneP (m : Mh K H S F μ) {p : Addr} (h : H p = none) : μ.P p = none := by
  cases e : μ.P p with
  | none => rfl
  | some u => rw [m.gd _ _ e] at h; cases h
theorem Mh.cellUp (m : Mh K H S F μ) {p : Addr} {o : HO} (h : H p = none) (l : Le F G) : ∀ (i : Nat) (a : Addr) (c : Cell), μ.cs[i]? = some a → S[i]? = some c → CellIs K G (upd H p o) a c := fun i a c e1 e2 => by
  have q := m.cell i a c e1 e2
  obtain ⟨u, hu⟩ := q.some
  exact q.keep l (upd_ne (ne_of_none hu h))
theorem Mh.gdUp (m : Mh K H S F μ) {p : Addr} {o : HO} (h : H p = none) : Le μ.P (upd H p o) := fun a u e => by
  have := m.gd a u e
  rw [upd_ne (ne_of_none this h)]; exact this
/-- a new object, frozen -/
theorem Mh.new (m : Mh K H S F μ) {p : Addr} {o : HO} (h : H p = none) : Mh K (upd H p o) S (upd F p o) μ := by
  have hF := m.noneF h
  refine ⟨fun a u e => ?_, m.mlen, m.cellUp h (Le.upd hF), m.nd, fun a ha => ?_, m.gdUp h, fun a u e => ?_⟩
  · by_cases hp : a = p
    · subst hp; rw [upd_same] at e ⊢; exact e
    · rw [upd_ne hp] at e ⊢; exact m.sub a u e
  · have ne : a ≠ p := fun e => by rw [e] at ha; exact m.notin h ha
    rw [upd_ne ne]; exact m.off a ha
  · obtain ⟨g1, g2⟩ := m.gf a u e
    have ne : a ≠ p := fun z => by rw [z, m.noneP h] at e; cases e
    exact ⟨by rw [upd_ne ne]; exact g1, g2⟩
/-- a new object, not frozen -/
theorem Mh.grow (m : Mh K H S F μ) {p : Addr} {o : HO} (h : H p = none) : Mh K (upd H p o) S F μ :=
  ⟨fun a u e => by have := m.sub a u e; rw [upd_ne (ne_of_none this h)]; exact this, m.mlen, m.cellUp h (Le.refl F), m.nd, m.off, m.gdUp h, m.gf⟩
/-- what is new is frozen -/
theorem Mh.freeze (m : Mh K H S F μ) {p : Addr} {o : HO} (h : H p = some o) (hF : F p = none) (hp : p ∉ μ.cs) (hP : μ.P p = none) : Mh K H S (upd F p o) μ := by
  refine ⟨fun a u e => ?_, m.mlen, fun i a c e1 e2 => ?_, m.nd, fun a ha => ?_, m.gd, fun a u e => ?_⟩
  · by_cases hap : a = p
    · subst hap; rw [upd_same] at e; cases e; exact h
    · rw [upd_ne hap] at e; exact m.sub a u e
  · exact (m.cell i a c e1 e2).keep (Le.upd hF) rfl
  · have ne : a ≠ p := fun e => by rw [e] at ha; exact hp ha
    rw [upd_ne ne]; exact m.off a ha
  · obtain ⟨g1, g2⟩ := m.gf a u e
    have ne : a ≠ p := fun z => by rw [z, hP] at e; cases e
    exact ⟨by rw [upd_ne ne]; exact g1, g2⟩
/-- .. becomes a cell -/
theorem Mh.ownC (m : Mh K H S F μ) {p : Addr} {c0 : Cell} (hF : F p = none) (hp : p ∉ μ.cs) (hP : μ.P p = none) (r : CellIs K F H p c0) : Mh K H (S ++ [c0]) F (μ.ext [p]) := by
  refine ⟨m.sub, by simp [m.mlen, Fp.ext], fun i a c e1 e2 => ?_, ?_, fun a ha => ?_, m.gd, fun a u e => ?_⟩
  · unfold Fp.ext at e1
    by_cases hi : i < μ.cs.length
    · rw [List.getElem?_append_left hi] at e1
      rw [List.getElem?_append_left (by rw [← m.mlen]; exact hi)] at e2
      exact m.cell i a c e1 e2
    · have hi' : i = μ.cs.length := by
        have := (List.getElem?_eq_some_iff.mp e1).1
        simp at this; omega
      subst hi'
      rw [List.getElem?_append_right (Nat.le_refl _), Nat.sub_self] at e1
      rw [m.mlen, List.getElem?_append_right (Nat.le_refl _), Nat.sub_self] at e2
      simp at e1 e2
      subst e1; subst e2
      exact r
  · unfold Fp.ext
    rw [List.nodup_append]
    refine ⟨m.nd, by simp, fun a ha b hb => ?_⟩
    simp at hb
    subst hb
    exact fun e => by rw [e] at ha; exact hp ha
  · rcases List.mem_append.mp (show a ∈ μ.cs ++ [p] from ha) with ha | ha
    · exact m.off a ha
    · simp at ha; subst ha; exact hF
  · obtain ⟨g1, g2⟩ := m.gf a u e
    refine ⟨g1, fun ha => ?_⟩
    rcases List.mem_append.mp (show a ∈ μ.cs ++ [p] from ha) with ha | ha
    · exact g2 ha
    · simp at ha; subst ha; rw [show μ.P a = some u from e] at hP; cases hP
theorem Mh.own (m : Mh K H S F μ) {p : Addr} {vs : List V} {ds : List D} (h : H p = some (.lst vs)) (hF : F p = none) (hp : p ∉ μ.cs) (hP : μ.P p = none) (r : Reps K F ds vs) : Mh K H (S ++ [.lst ds]) F (μ.ext [p]) :=
  m.ownC hF hp hP ⟨vs, h, r⟩
/-- a cell is changed -/
theorem Mh.putC (m : Mh K H S F μ) {i : Nat} {p : Addr} {o : HO} {c0 : Cell} (e : μ.cs[i]? = some p) (r : CellIs K F (upd H p o) p c0) : Mh K (upd H p o) (S.set i c0) F μ := by
  have hmem : p ∈ μ.cs := List.mem_iff_getElem?.mpr ⟨i, e⟩
  refine ⟨fun a u q => ?_, by simp [m.mlen], fun j a c e1 e2 => ?_, m.nd, m.off, fun a u q => ?_, m.gf⟩
  · have hp : F p = Option.none := m.off p hmem
    rw [upd_ne (ne_of_none q hp)]; exact m.sub a u q
  · by_cases h : i = j
    · subst h
      have hl : i < S.length := by rw [← m.mlen]; exact (List.getElem?_eq_some_iff.mp e).1
      rw [List.getElem?_set_self hl] at e2
      rw [e] at e1
      cases e1; cases e2
      exact r
    · rw [List.getElem?_set_ne h] at e2
      have q := m.cell j a c e1 e2
      have hne : a ≠ p := fun z => by
        subst z
        obtain ⟨h1, g1⟩ := List.getElem?_eq_some_iff.mp e1
        obtain ⟨h2, g2⟩ := List.getElem?_eq_some_iff.mp e
        exact h ((List.getElem_inj m.nd).mp (g2.trans g1.symm))
      exact q.keep (Le.refl F) (upd_ne hne)
  · have ne : a ≠ p := fun z => by rw [z] at q; exact (m.gf p u q).2 hmem
    rw [upd_ne ne]; exact m.gd a u q
theorem Mh.put (m : Mh K H S F μ) {i : Nat} {p : Addr} {vs : List V} {ds : List D} (e : μ.cs[i]? = some p) (r : Reps K F ds vs) : Mh K (upd H p (.lst vs)) (S.set i (.lst ds)) F μ := m.putC e ⟨vs, upd_same, r⟩
/-- the first cells -/
theorem Mh.cut (m : Mh K H S F μ) (n : Nat) : Mh K H (S.take n) F (μ.take n) := by
  refine ⟨m.sub, by simp [m.mlen, Fp.take], fun i a c e1 e2 => ?_, m.nd.sublist (List.take_sublist _ _), fun a ha => m.off a (List.mem_of_mem_take ha), m.gd, fun a u e => ⟨(m.gf a u e).1, fun ha => (m.gf a u e).2 (List.mem_of_mem_take ha)⟩⟩
  unfold Fp.take at e1
  have h1 : i < n := by
    by_cases h : i < n
    · exact h
    · rw [List.getElem?_eq_none (by simp; omega)] at e1; cases e1
  rw [List.getElem?_take_of_lt h1] at e1 e2
  exact m.cell i a c e1 e2
/-- guarded things: fewer of them, one more -/
theorem Mh.guard (m : Mh K H S F μ) {P : Hp} (g : Le P H) (h : ∀ a o, P a = some o → F a = none ∧ a ∉ μ.cs) : Mh K H S F ⟨μ.cs, P⟩ := ⟨m.sub, m.mlen, m.cell, m.nd, m.off, g, h⟩
end

/-- a value as it lies for an operation: a list may be a cell's -/
def RepH (K : PySem.W.Frag) (F H : Hp) (d : D) (x : V) : Prop :=
  match d with
  | .lst ds => ∃ a vs, x = .ref a ∧ H a = some (.lst vs) ∧ Reps K F ds vs
  | .dct ks ds => ∃ a kvs, x = .ref a ∧ Rd H a (.dK kvs) ∧ kvs.map (·.1) = ks ∧ Reps K F ds (kvs.map (·.2))
  | d => Rep K F d x
section
variable {K : PySem.W.Frag} {H : Hp} {S : Store} {F : Hp} {μ : Fp}
theorem Rep.h (l : Le F H) {d : D} {x : V} (r : Rep K F d x) : RepH K F H d x := by
  cases d with
  | lst ds => obtain ⟨a, vs, e, q, r⟩ := r; exact ⟨a, vs, e, l _ _ q, r⟩
  | dct ks ds => obtain ⟨a, kvs, e, q, r⟩ := r; exact ⟨a, kvs, e, .inl (l _ _ q), r⟩
  | _ => exact r
theorem der_rep (m : Mh K H S F μ) {v : Sv} {x : V} {d : D} (r : RepS K F μ v x) (e : der S v = some d) : RepH K F H d x := by
  cases v with
  | p d' => simp [der] at e; subst e; exact r.h m.sub
  | c i =>
    obtain ⟨a, h1, rfl⟩ := r
    cases q : S[i]? with
    | none => simp [der, q] at e
    | some c =>
      cases c with
      | lst xs =>
        simp [der, q] at e; subst e
        obtain ⟨vs, q1, q2⟩ := m.cell i a _ h1 q
        exact ⟨a, vs, rfl, q1, q2⟩
      | dct ks ds =>
        simp [der, q] at e; subst e
        obtain ⟨kvs, q1, q2, q3⟩ := m.cell i a _ h1 q
        exact ⟨a, kvs, rfl, .inl q1, q2, q3⟩
theorem RepH.dp (l : Le F H) {d : D} {x : V} {p : PyData} (r : RepH K F H d x) (e : toPy d = some p) : Dp K H x p := by
  cases d with
  | lst ds =>
    obtain ⟨a, vs, rfl, q, r⟩ := r
    simp only [toPy, Option.map_eq_some_iff] at e
    obtain ⟨ps, e1, rfl⟩ := e
    exact .lst (.of q) (Reps.dp l r e1)
  | non => exact Rep.dp l r e
  | bl _ => exact Rep.dp l r e
  | int _ => exact Rep.dp l r e
  | str _ => exact Rep.dp l r e
  | tup _ => exact Rep.dp l r e
  | scr _ => exact Rep.dp l r e
  | fn _ => exact Rep.dp l r e
  | dct _ _ => simp [toPy] at e
theorem RepH.non_iff {d : D} {x : V} (r : RepH K F H d x) : decide (x = .non) = decide (d = .non) := by
  cases d with
  | non => cases (show x = .non from r); rfl
  | bl _ => cases (show x = .bl _ from r); rfl
  | int _ => cases (show x = .int _ from r); rfl
  | str _ => cases (show x = .str _ from r); rfl
  | tup _ => obtain ⟨a, vs, rfl, _⟩ := r; rfl
  | lst _ => obtain ⟨a, vs, rfl, _⟩ := r; rfl
  | scr _ => obtain ⟨a, rfl, _⟩ := r; rfl
  | fn _ => exact (show False from r).elim
  | dct _ _ => obtain ⟨a, kvs, rfl, _⟩ := r; rfl
end

/-! ### what is wanted behind an evaluation -/
/-- a value that may be new: a list that nobody else knows -/
def RepF (K : PySem.W.Frag) (μ : Fp) (F H : Hp) (v : Sv) (x : V) : Prop :=
  match v with
  | .p (.lst ds) => ∃ a vs, x = .ref a ∧ H a = some (.lst vs) ∧ F a = none ∧ a ∉ μ.cs ∧ μ.P a = none ∧ Reps K F ds vs
  | .p (.dct ks ds) => ∃ a kvs, x = .ref a ∧ H a = some (.dK kvs) ∧ F a = none ∧ a ∉ μ.cs ∧ μ.P a = none ∧ kvs.map (·.1) = ks ∧ Reps K F ds (kvs.map (·.2))
  | v => RepS K F μ v x
/-- the exception as it lies -/
def XcIs (mg : Str → Option Value) (F : Hp) (e : Xc) (cls : Value) (d : Option Addr) : Prop :=
  mg e.cls = some cls ∧ match e.arg with
    | none => d = none
    | some n => ∃ a v, d = some a ∧ F a = some (.xd [("limit", v)]) ∧ (match n with | .int i => v = .int i | _ => False)
theorem XcIs.mono {mg : Str → Option Value} {F G : Hp} (l : Le F G) {e : Xc} {cls : Value} {d : Option Addr} (h : XcIs mg F e cls d) : XcIs mg G e cls d := by
  obtain ⟨h1, h2⟩ := h
  refine ⟨h1, ?_⟩
  revert h2
  cases e.arg with
  | none => exact id
  | some n => exact fun ⟨a, v, e1, e2, e3⟩ => ⟨a, v, e1, l _ _ e2, e3⟩
/-- r's end: Rp: how its value lies; E: what is wanted of an exception -/
def End (K : PySem.W.Frag) (mg : Str → Option Value) (E : XK) (μ : Fp) {α β : Type} (Rp : Hp → Hp → α → β → Prop) (F : Hp) (r : R α) (Q : β → Hp → Prop) : Prop :=
  match r with
  | .ok a S' => ∀ b H' F', Le F F' → Mh K H' S' F' μ → Rp F' H' a b → Q b H'
  | .exc e S' => ∀ H' F' cls d, Le F F' → Mh K H' S' F' μ → XcIs mg F' e cls d → E cls d H'
  | .bad => False
section
variable {K : PySem.W.Frag} {mg : Str → Option Value} {E : XK} {μ : Fp} {α β γ δ : Type} {RpA : Hp → Hp → α → β → Prop} {RpC : Hp → Hp → γ → δ → Prop} {F G : Hp}
theorem End.mono {r : R α} {Q : β → Hp → Prop} (h : End K mg E μ RpA F r Q) (l : Le F G) : End K mg E μ RpA G r Q := by
  cases r with
  | ok a S => exact fun b H' F' l' m rp => h b H' F' (l.trans l') m rp
  | exc e S => exact fun H' F' cls d l' m x => h H' F' cls d (l.trans l') m x
  | bad => exact h
/-- the first of two -/
theorem End.split {r : R α} {f : α → Store → R γ} {Q : δ → Hp → Prop} {Q' : β → Hp → Prop} (h : End K mg E μ RpC F (r.bind f) Q)
    (k : ∀ a S' b H' F', r = .ok a S' → Le F F' → Mh K H' S' F' μ → RpA F' H' a b → End K mg E μ RpC F' (f a S') Q → Q' b H') : End K mg E μ RpA F r Q' := by
  cases r with
  | ok a S => exact fun b H' F' l m rp => k a S b H' F' rfl l m rp (h.mono l)
  | exc e S => exact h
  | bad => exact h
/-- another end of the same -/
theorem End.imp {r : R α} {RpA' : Hp → Hp → α → δ → Prop} {Q : β → Hp → Prop} {Q' : δ → Hp → Prop} (h : End K mg E μ RpA F r Q)
    (k : ∀ a S' b H' F', r = .ok a S' → Le F F' → Mh K H' S' F' μ → RpA' F' H' a b → (∀ b' H'' F'', Le F' F'' → Mh K H'' S' F'' μ → RpA F'' H'' a b' → Q b' H'') → Q' b H') : End K mg E μ RpA' F r Q' := by
  cases r with
  | ok a S => exact fun b H' F' l m rp => k a S b H' F' rfl l m rp fun b' H'' F'' l' m' rp' => h b' H'' F'' (l.trans l') m' rp'
  | exc e S => exact h
  | bad => exact h
abbrev RpE (K : PySem.W.Frag) (μ : Fp) : Hp → Hp → Sv → V → Prop := fun F _ v x => RepS K F μ v x
abbrev RpF (K : PySem.W.Frag) (μ : Fp) : Hp → Hp → Sv → V → Prop := fun F H v x => RepF K μ F H v x
abbrev RpT : Hp → Hp → Bool → Bool → Prop := fun _ _ a b => a = b
abbrev RpL (K : PySem.W.Frag) (μ : Fp) : Hp → Hp → List Sv → List V → Prop := fun F _ v x => RepSs K F μ v x
abbrev RpO : Hp → Hp → Option Int → Option Int → Prop := fun _ _ a b => a = b
/-- frozen, if it was new -/
theorem End.freeze {r : R Sv} {Q : V → Hp → Prop} (h : End K mg E μ (RpE K μ) F r Q) : End K mg E μ (RpF K μ) F r Q := by
  cases r with
  | ok v S =>
    intro b H' F' l m rp
    cases v with
    | c i => exact h b H' F' l m rp
    | p d =>
      cases d with
      | lst ds =>
        obtain ⟨a, vs, rfl, q1, q2, q3, q5, q4⟩ := rp
        exact h _ H' (upd F' a (.lst vs)) (l.trans (Le.upd q2)) (m.freeze q1 q2 q3 q5) ⟨a, vs, rfl, upd_same, q4.mono (Le.upd q2)⟩
      | dct ks ds =>
        obtain ⟨a, kvs, rfl, q1, q2, q3, q5, q4, q6⟩ := rp
        exact h _ H' (upd F' a (.dK kvs)) (l.trans (Le.upd q2)) (m.freeze q1 q2 q3 q5) ⟨a, kvs, rfl, upd_same, q4, q6.mono (Le.upd q2)⟩
      | _ => exact h b H' F' l m rp
  | exc e S => exact h
  | bad => exact h
end
end DV

set_option Elab.async false
set_option linter.all false
set_option maxRecDepth 100000
set_option maxHeartbeats 4000000
/-! DV3: operators, comparisons, built-ins. -/
namespace DV
open PySem PySem.Spec PyProof.Rows L2
section
variable {prog : Program} {w : World} {A : Around} {E : Value → Shared → Prop} {s : Shared}
theorem sliceApplied_rev {sl : Addr} {vl vu vs : Value} {n : Nat} {Q : Int × Int × Nat → Shared → Prop} (hs : s.heap.IsSliceOf sl vl vu vs) (pl : IsPart vl none) (pu : IsPart vu none) (ps : IsPart vs (some (-1)))
    (h : Q ((n : Int) - 1, -1, n) s) : wpAny (model prog w) A (Builtin.Slice.sliceApplied (.ref sl) (pure (n : Int))) Q E s := by
  obtain ⟨os, hos, hcs, hds⟩ := id hs
  unfold Builtin.Slice.sliceApplied Builtin.Slice.sliceFields
  refine wpAny_bind (wpAny_bind (wpAny_field hos hds (x := vl) rfl (wpAny_bind (wpAny_field hos hds (x := vu) rfl (wpAny_bind (wpAny_field hos hds (x := vs) rfl (wpAny_pure ?_)))))))
  refine wpAny_bind (HT.slicePart_ ps ?_)
  show wpAny _ _ (if ((-1 : Int) == 0) = true then _ else _) _ _ s
  rw [if_neg (by decide)]
  refine wpAny_bind (HT.slicePart_ pl (wpAny_bind (HT.slicePart_ pu (wpAny_bind (wpAny_pure ?_)))))
  show wpAny _ _ (pure ((n : Int) - 1, (-1 : Int), Builtin.Slice.slicePlaces ((n : Int) - 1) (-1) (-1))) _ _ s
  have e : Builtin.Slice.slicePlaces ((n : Int) - 1) (-1) (-1) = n := by
    unfold Builtin.Slice.slicePlaces
    rw [if_neg (by decide)]
    by_cases h : (n : Int) - 1 > -1
    · rw [if_pos h, show (-(-1) : Int) = 1 by decide, Int.ediv_one]; omega
    · rw [if_neg h]; omega
  rw [e]
  exact wpAny_pure h
theorem getItem_tuple_rev {t sl : Addr} {items : Array Value} {vl vu vs : Value} {Q : Value → Shared → Prop} (ht : IsTup s.heap t items) (hs : s.heap.IsSliceOf sl vl vu vs) (pl : IsPart vl none) (pu : IsPart vu none) (ps : IsPart vs (some (-1)))
    (h : Q (.ref s.heap.objs.size) { s with heap := s.heap.push { cls := .type "tuple", data := .seq items.toList.reverse.toArray } })
    (hsz : items.size ≤ sizeLine) : wpAny (model prog w) A (getItem (.ref t) (.ref sl)) Q E s := by
  have htake : sizeOk (.seq items.toList.reverse.toArray) := by
    show items.toList.reverse.toArray.size ≤ sizeLine
    rw [List.size_toArray, List.length_reverse, Array.length_toList]
    exact hsz
  obtain ⟨os, hos, hcs, hds⟩ := id hs
  have hTs : s.TypeIs (.ref sl) "slice" := ⟨os, hos, hcs⟩
  unfold getItem
  try with_reducible refine wpAny_holding ?_
  first | refine wpAny_bind (wpAny_pure ?_) | skip
  refine wpAny_bind (wpAny_sequenceKey ht.typeIs (by decide) ?_)
  refine wpAny_bind (wpAny_callSpecial?_slot (name := Str.ofString "__getitem__") ht.typeIs PyProof.Rows.slot_tuple_getitem
    (wpAny_call_entry PyProof.Rows.slot_tuple_getitem ht.typeIs entry_tuple_getitem ?_ (args_tuple_getitem _ _)))
  show wpAny _ _ (Builtin.Tuple.tupleItemsOf (.ref t) >>= _) _ _ s
  refine wpAny_bind (tupleItemsOf_ ht ?_)
  refine wpAny_bind (wpAny_typeOf hTs ?_)
  rw [if_pos (by decide)]
  refine wpAny_bind (sliceApplied_rev hs pl pu ps ?_)
  have hno : ¬ ((((items.size : Int) - 1) == 0 && (-1 : Int) == 1 && items.size == items.size) = true) := by simp
  show wpAny _ _ (if (((items.size : Int) - 1) == 0 && (-1 : Int) == 1 && items.size == items.size) = true then _ else _) _ _ s
  rw [if_neg hno]
  have e : ((List.range items.size).filterMap fun (m : Nat) => items[(((items.size : Int) - 1) + (m : Int) * (-1)).toNat]?).toArray = items.toList.reverse.toArray := by
    have q := PySem.W.krv_pick items
    unfold slicePick at q
    rw [PySem.W.krv_bounds] at q
    have q : ((sliceRange ((items.size : Int) - 1) (-1) (-1)).filterMap (items[·]?)).toArray = items.toList.reverse.toArray := q
    rw [PySem.W.krv_sliceRange, List.filterMap_map] at q
    rw [← q]
    congr 1
    have key : ∀ l : List Nat, (∀ m ∈ l, m < items.size) → (l.filterMap fun (m : Nat) => items[(((items.size : Int) - 1) + (m : Int) * (-1)).toNat]?) = l.filterMap ((fun x => items[x]?) ∘ fun k => items.size - 1 - k) := by
      intro l
      induction l with
      | nil => intro _; rfl
      | cons m l ih =>
        intro h
        have hm := h m List.mem_cons_self
        have e : (((items.size : Int) - 1) + (m : Int) * (-1)).toNat = items.size - 1 - m := by omega
        simp only [List.filterMap_cons, Function.comp, e, ih fun m hm => h m (List.mem_cons_of_mem _ hm)]
    exact key _ fun m hm => List.mem_range.mp hm
  rw [e]
  first
    | exact wpAny_bind (m := Builtin.Tuple.tupleExact _) (wpAny_newObj_type (wpAny_pure ⟨_, rfl, wpAny_pure h⟩) htake)
    | exact wpAny_bind (m := Builtin.Tuple.tupleExact _) (wpAny_newObj_type (wpAny_bind (wpAny_pure (wpAny_pure ⟨_, rfl, wpAny_pure h⟩))) htake)
    | exact wpAny_bind (wpAny_bind (m := Builtin.Tuple.tupleExact _) (wpAny_newObj_type (wpAny_pure (wpAny_pure ⟨_, rfl, wpAny_pure h⟩)) htake))
    | exact wpAny_bind (wpAny_bind (m := Builtin.Tuple.tupleExact _) (wpAny_newObj_type (wpAny_pure ⟨_, rfl, wpAny_pure h⟩) htake))
end
def tRevA (K : PySem.W.Frag) (te : TE) : TE := fun σ H Q => te σ H fun x H1 => ∃ a xs, x = .ref a ∧ ((SqL K H1 a xs ∧ ∀ p, H1 p = none → Q (.ref p) (upd H1 p (.lst xs.reverse))) ∨ (SqT K H1 a xs ∧ ∀ p, H1 p = none → Q (.ref p) (upd H1 p (.tup xs.reverse))))
theorem pe_revA {X : Cx} {e : Expr} {te : TE} {k : Nat} {p1 p2 p3 pos : Pos} (he : PE X e te) : PE X (.Subscript e (.Slice none none (some (.UnaryOp .USub (.Constant (.int 1) k p1) p2)) p3) pos) (tRevA X.K te) := by
  refine ⟨fun pins s σ H Q I h => ?_⟩
  refine Subscript_ (thn (he.run pins s σ H _ I h) fun v s1 ⟨x, H1, I1, r1, q1⟩ => ?_)
  obtain ⟨a, xs, ex, q⟩ := q1
  subst ex
  cases r1
  have hst : PO X (some (.UnaryOp .USub (.Constant (.int 1) k p1) p2)) (tPart (tUn (rU fun i => .int (-i)) (tC (.int 1)))) := po_some (pe_un un_neg pe_int)
  refine wpAny_Slice (thn (po_none.run pins s1 σ H1 (fun o H2 => o = none ∧ H2 = H1) I1 ⟨rfl, rfl⟩) fun vl s2 ⟨l, H2, I2, pl, el, e2⟩ => ?_)
  subst el e2
  refine thn (po_none.run pins s2 σ H2 (fun o H3 => o = none ∧ H3 = H2) I2 ⟨rfl, rfl⟩) fun vu s3 ⟨u, H3, I3, pu, eu, e3⟩ => ?_
  subst eu e3
  refine thn (hst.run pins s3 σ H3 (fun o H4 => o = some (-1) ∧ H4 = H3) I3 ⟨1, rfl, -1, rfl, rfl, rfl⟩) fun vs s4 ⟨o, H4, I4, ps, eo, e4⟩ => ?_
  subst eo e4
  have I5 : Inv X pins σ H4 { s4 with heap := s4.heap.push { cls := .type "slice", data := .fields #[vl, vu, vs] } } := I4.kept (t' := s4.toks) fun b ob q => Heap.get?_push_of_some _ q
  show wpAny (model X.prog X.w) X.A (subscriptTail e (.Slice none none (some (.UnaryOp .USub (.Constant (.int 1) k p1) p2)) p3) (.ref a) (.ref s4.heap.objs.size)) (EP X pins σ Q) X.xe { s4 with heap := s4.heap.push { cls := .type "slice", data := .fields #[vl, vu, vs] } }
  rcases q with ⟨hx, q⟩ | ⟨hx, q⟩
  · obtain ⟨its, r, ht, hz⟩ := I5.list hx
    have hlen := r.length
    refine tail_any (ops := [.ref a, .ref s4.heap.objs.size]) ht.isList.typeIs (PySem.slot_list_getitem.lookup) ?_ (by with_unfolding_all rfl)
    refine wpAny_getItem_list_slice ht.isList (Heap.IsSliceOf.new _ vl vu vs) pl pu ps (by decide) ?_ (by rw [List.size_toArray]; omega)
    rw [PySem.W.krv_pick]
    refine ⟨.ref _, _, I5.laid (t' := s4.toks) (o := .lst xs.reverse) (fun b ob q => Heap.get?_push_of_some _ q) (Nat.le_refl _) ?_, rfl, q _ (I5.hok.fresh (Nat.le_refl _))⟩
    exact ⟨by rw [List.length_reverse]; exact hz, _, 0, r.reverse, Heap.get?_push_size _ rfl⟩
  · obtain ⟨its, r, ht, hz⟩ := I5.tuple hx
    have hlen := r.length
    refine tail_any (ops := [.ref a, .ref s4.heap.objs.size]) ht.typeIs (PyProof.Rows.slot_tuple_getitem.lookup) ?_ (by with_unfolding_all rfl)
    refine getItem_tuple_rev ht (Heap.IsSliceOf.new _ vl vu vs) pl pu ps ?_ (by rw [List.size_toArray]; omega)
    refine ⟨.ref _, _, I5.laid (t' := s4.toks) (o := .tup xs.reverse) (fun b ob q => Heap.get?_push_of_some _ q) (Nat.le_refl _) ?_, rfl, q _ (I5.hok.fresh (Nat.le_refl _))⟩
    exact ⟨by rw [List.length_reverse]; exact hz, _, r.reverse, IsTup.new _ _⟩
theorem tuple_mul1 (l : Addr) (items : Array Value) (n : Nat) (dd : Option Addr) (sl : Array (Option Value)) (x : Int) (u : Tok) (c0 : (decide (x < -(2 ^ 63)) || decide (x ≥ 2 ^ 63)) = false) (c1 : (items.isEmpty || x == 1) = true) :
    Meets (Builtin.«tuple.__mul__» ⟨[.ref l, .int x u], []⟩) (fun _ R s => s.heap.get? l = some { cls := .type "tuple", dict := dd, data := .seq items n, slots := sl } ∧ R (.ok (.ret (Value.ref l))) s) :=
  .of_wp fun prog w A R s h => by
    obtain ⟨hp, g, d, tk, os⟩ := s
    obtain ⟨hl, h⟩ := h
    have f1 := AutoSeq1.idx_int
    wp_walk using wpAny_loadPart' hl
    repeat (first
      | (refine wpAny_ite_false (decide_eq_false (by rw [c0]; exact Bool.false_ne_true)) ?_; wp_walk using wpAny_loadPart' hl)
      | (refine wpAny_ite_true (decide_eq_true c1) ?_; wp_walk using wpAny_loadPart' hl))
    exact ⟨_, rfl, h⟩
theorem tuple_mul0 (l : Addr) (items : Array Value) (n : Nat) (dd : Option Addr) (sl : Array (Option Value)) (x : Int) (u : Tok) (c0 : (decide (x < -(2 ^ 63)) || decide (x ≥ 2 ^ 63)) = false) (c1 : (items.isEmpty || x == 1) = false) (c2 : (decide (x ≤ 0) || items.isEmpty) = true) :
    Meets (Builtin.«tuple.__mul__» ⟨[.ref l, .int x u], []⟩) (fun _ R s => s.heap.get? l = some { cls := .type "tuple", dict := dd, data := .seq items n, slots := sl } ∧
      R (.ok (.ret (Value.ref s.heap.objs.size))) { s with heap := s.heap.push { cls := Value.type "tuple", data := Data.seq #[] }, toks := s.toks }) :=
  .of_wp fun prog w A R s h => by
    obtain ⟨hp, g, d, tk, os⟩ := s
    obtain ⟨hl, h⟩ := h
    have f1 := AutoSeq1.idx_int
    wp_walk using wpAny_loadPart' hl
    repeat (first
      | (refine wpAny_ite_false (decide_eq_false (by rw [c0]; exact Bool.false_ne_true)) ?_; wp_walk using wpAny_loadPart' hl)
      | (refine wpAny_ite_false (decide_eq_false (by rw [c1]; exact Bool.false_ne_true)) ?_; wp_walk using wpAny_loadPart' hl)
      | (refine wpAny_ite_true (decide_eq_true c2) ?_; wp_walk using wpAny_loadPart' hl))
    exact ⟨_, rfl, h⟩
def rRepA (K : PySem.W.Frag) : R2 := fun x y H Q => ∃ l k xs, x = .ref l ∧ y = .int k ∧ SqT K H l xs ∧ -(2 ^ 63) ≤ k ∧ k < 2 ^ 63 ∧ (k ≤ 1 ∨ xs = []) ∧
  (if xs = [] ∨ k = 1 then Q (.ref l) H else ∀ p, H p = none → Q (.ref p) (upd H p (.tup [])))
theorem op_repA {X : Cx} : OpR X (binaryOp .Mult) (rRepA X.K) := by
  intro pins s σ H x y v u Q I rx ry h
  obtain ⟨l, k, xs, rfl, rfl, hT, h1, h2, h3, q⟩ := h
  cases rx
  obtain ⟨t, rfl⟩ := ry
  obtain ⟨its, r, ⟨⟨cls, dd, data, sl⟩, ho, hc, n, hd⟩, hs⟩ := I.tuple hT
  simp only at hc hd
  subst hc hd
  have hle : its.length = xs.length := r.length.symm
  have c0 : (decide (k < -(2 ^ 63)) || decide (k ≥ 2 ^ 63)) = false := by
    rw [decide_eq_false (by omega), decide_eq_false (by omega)] <;> rfl
  by_cases hx : xs = [] ∨ k = 1
  · rw [if_pos hx] at q
    have c1 : (its.toArray.isEmpty || k == 1) = true := by
      rcases hx with rfl | rfl
      · have : its = [] := List.eq_nil_of_length_eq_zero (by simpa using hle)
        subst this; rfl
      · simp
    refine wpAny_binaryOp_repeat_ref (T := "tuple") (U := "int") (by decide) ⟨_, ho, rfl⟩ (fun s' => typeIs_int s' k t) noFill_tuple_mul F.fills_int_mul F.slot_int_rmul repeat_tuple F.slot_int_index.lookup
      (call_meets F.slot_int_rmul (typeIs_int s k t) F.entry_int_rmul (F.args_int_rmul_2 _ _) (int_rmul_tuple k t l its.toArray n dd sl)
        ⟨ho, rfl, ⟨_, ho, rfl⟩, call_meets F.slot_tuple_mul ⟨_, ho, rfl⟩ F.entry_tuple_mul (F.args_tuple_mul_2 _ _) (tuple_mul1 l its.toArray n dd sl k t c0 c1) ⟨ho, ?_⟩⟩)
    exact ⟨.ref l, _, I, rfl, q⟩
  · rw [if_neg hx] at q
    have hx1 : xs ≠ [] := fun z => hx (.inl z)
    have hx2 : k ≠ 1 := fun z => hx (.inr z)
    have hi : its.toArray.isEmpty = false := by
      cases its with
      | nil => exact absurd (List.eq_nil_of_length_eq_zero (by simpa using hle.symm)) hx1
      | cons a b => rfl
    have c1 : (its.toArray.isEmpty || k == 1) = false := by
      rw [hi, Bool.false_or]
      exact beq_eq_false_iff_ne.mpr hx2
    have c2 : (decide (k ≤ 0) || its.toArray.isEmpty) = true := by
      have : k ≤ 1 := h3.resolve_right hx1
      rw [decide_eq_true (by omega)]; rfl
    refine wpAny_binaryOp_repeat_ref (T := "tuple") (U := "int") (by decide) ⟨_, ho, rfl⟩ (fun s' => typeIs_int s' k t) noFill_tuple_mul F.fills_int_mul F.slot_int_rmul repeat_tuple F.slot_int_index.lookup
      (call_meets F.slot_int_rmul (typeIs_int s k t) F.entry_int_rmul (F.args_int_rmul_2 _ _) (int_rmul_tuple k t l its.toArray n dd sl)
        ⟨ho, rfl, ⟨_, ho, rfl⟩, call_meets F.slot_tuple_mul ⟨_, ho, rfl⟩ F.entry_tuple_mul (F.args_tuple_mul_2 _ _) (tuple_mul0 l its.toArray n dd sl k t c0 c1 c2) ⟨ho, ?_⟩⟩)
    refine ⟨.ref s.heap.objs.size, _, I.laid (t' := s.toks) (o := .tup []) (fun b ob q => Heap.get?_push_of_some _ q) (Nat.le_refl _) ?_, rfl, q _ (I.hok.fresh (Nat.le_refl _))⟩
    exact ⟨Nat.zero_le _, [], .nil, IsTup.new _ _⟩

/-- what is wanted behind an operation that hands back d -/
def K1 (K : PySem.W.Frag) (F : Hp) (μ : Fp) (S : Store) (d : D) (Q : VK) : Prop := ∀ b H' F', Le F F' → Mh K H' S F' μ → RepF K μ F' H' (.p d) b → Q b H'
section
variable {K : PySem.W.Frag} {F : Hp} {μ : Fp} {S : Store} {Q : VK} {H : Hp}
theorem K1.int {i : Int} (k : K1 K F μ S (.int i) Q) (m : Mh K H S F μ) : Q (.int i) H := k _ H F (Le.refl F) m rfl
theorem K1.bl {i : Bool} (k : K1 K F μ S (.bl i) Q) (m : Mh K H S F μ) : Q (.bl i) H := k _ H F (Le.refl F) m rfl
theorem K1.str {i : Str} (k : K1 K F μ S (.str i) Q) (m : Mh K H S F μ) : Q (.str i) H := k _ H F (Le.refl F) m rfl
theorem K1.lst {ds : List D} {vs : List V} (k : K1 K F μ S (.lst ds) Q) (m : Mh K H S F μ) (r : Reps K F ds vs) : ∀ p, H p = none → Q (.ref p) (upd H p (.lst vs)) :=
  fun p hp => k _ _ F (Le.refl F) (m.grow hp) ⟨p, vs, rfl, upd_same, m.noneF hp, m.notin hp, m.noneP hp, r⟩
theorem K1.tup {ds : List D} {vs : List V} (k : K1 K F μ S (.tup ds) Q) (m : Mh K H S F μ) (r : Reps K F ds vs) : ∀ p, H p = none → Q (.ref p) (upd H p (.tup vs)) :=
  fun p hp => k _ _ (upd F p (.tup vs)) (Le.upd (m.noneF hp)) (m.new hp) ⟨p, vs, rfl, .of upd_same, r.mono (Le.upd (m.noneF hp))⟩
theorem K1.dct {kds : List (L2.Key × D)} {kvs : List (L2.Key × V)} (k : K1 K F μ S (mkDct kds) Q) (m : Mh K H S F μ) (e : kvs.map (·.1) = kds.map (·.1)) (r : Reps K F (kds.map (·.2)) (kvs.map (·.2))) : ∀ p, H p = none → Q (.ref p) (upd H p (.dK kvs)) :=
  fun p hp => k _ _ F (Le.refl F) (m.grow hp) ⟨p, kvs, rfl, upd_same, m.noneF hp, m.notin hp, m.noneP hp, e, r⟩
/-- the same value: what is no list -/
theorem RepF.of_rep {d : D} {x : V} (r : Rep K F d x) (h : ∀ ds, d ≠ .lst ds) (h2 : ∀ ks ds, d ≠ .dct ks ds := by intro _ _ z; cases z) : RepF K μ F H (.p d) x := by
  cases d with
  | lst ds => exact absurd rfl (h ds)
  | dct ks ds => exact absurd rfl (h2 ks ds)
  | _ => exact r
end

theorem two64 : (2 : Int) ^ 64 = 18446744073709551616 := by decide
theorem smallI.ok {i j : Int} (h : smallI i) : IntMulOk i j := .of_left (intBits_le_64 h.1 h.2)
theorem smallI.ok' {i j : Int} (h : smallI j) : IntMulOk i j := .of_right (intBits_le_64 h.1 h.2)
theorem mulOK.ok {i j : Int} (h : mulOK i j) : IntMulOk i j := by
  rcases h with h | h | h
  · exact h.ok
  · exact h.ok'
  · exact CMulW.ok h

section
variable {X : Cx}
theorem op_mulG : OpR X (binaryOp .Mult) (rI mulOK fun i j => .int (i * j)) := opI fun _ _ _ _ _ _ _ hc q => mul_int q (mulOK.ok hc)
theorem op_fdivG : OpR X (binaryOp .FloorDiv) (rI (fun _ j => divOK j) fun i j => .int (i.fdiv j)) := opI fun _ _ _ _ _ _ _ hc q => floordiv_int hc.1 q (.inl (PyProof.noPylong_of_log2 hc.2))
theorem op_modG : OpR X (binaryOp .Mod) (rI (fun _ j => j ≠ 0) fun i j => .int (i.fmod j)) := op_modN
theorem op_powG : OpR X (binaryOp .Pow) (rI powOK fun i j => .int (i ^ j.toNat)) := op_pow

def rBin (K : PySem.W.Frag) (op : Operator) : R2 := fun x y H Q => ∃ F μ S d e r, Mh K H S F μ ∧ RepH K F H d x ∧ RepH K F H e y ∧ binD op d e = some r ∧ K1 K F μ S r Q
theorem bin_ok (op : Operator) : OpR X (binaryOp op) (rBin X.K op) := by
  intro pins s σ H x y v u Q I rx ry h
  obtain ⟨F, μ, S, d, e, r, m, hd, he, hb, k⟩ := h
  unfold binD at hb
  split at hb
  · rename_i i j
    cases hb
    cases (show x = .int i from hd); cases (show y = .int j from he)
    exact op_add pins s σ H _ _ v u Q I rx ry ⟨i, j, rfl, rfl, k.int m⟩
  · rename_i i j
    cases hb
    cases (show x = .int i from hd); cases (show y = .int j from he)
    exact op_sub pins s σ H _ _ v u Q I rx ry ⟨i, j, rfl, rfl, k.int m⟩
  · rename_i i j
    split at hb
    · rename_i hc
      cases hb
      cases (show x = .int i from hd); cases (show y = .int j from he)
      exact op_mulG pins s σ H _ _ v u Q I rx ry ⟨i, j, rfl, rfl, hc, k.int m⟩
    · cases hb
  · rename_i i j
    split at hb
    · rename_i hc
      cases hb
      cases (show x = .int i from hd); cases (show y = .int j from he)
      exact op_fdivG pins s σ H _ _ v u Q I rx ry ⟨i, j, rfl, rfl, hc, k.int m⟩
    · cases hb
  · rename_i i j
    split at hb
    · rename_i hc
      cases hb
      cases (show x = .int i from hd); cases (show y = .int j from he)
      exact op_modG pins s σ H _ _ v u Q I rx ry ⟨i, j, rfl, rfl, hc, k.int m⟩
    · cases hb
  · rename_i i j
    split at hb
    · rename_i hc
      cases hb
      cases (show x = .int i from hd); cases (show y = .int j from he)
      exact op_powG pins s σ H _ _ v u Q I rx ry ⟨i, j, rfl, rfl, hc, k.int m⟩
    · cases hb
  · rename_i i j
    split at hb
    · rename_i hc
      cases hb
      cases (show x = .str i from hd); cases (show y = .str j from he)
      exact op_add_str pins s σ H _ _ v u Q I rx ry ⟨i, j, rfl, rfl, hc, k.str m⟩
    · cases hb
  · rename_i xs ys
    split at hb
    · rename_i hc
      cases hb
      obtain ⟨a, vs, rfl, h1, r1⟩ := hd
      obtain ⟨b, ws, rfl, h2, r2⟩ := he
      exact op_cat pins s σ H _ _ v u Q I rx ry ⟨a, b, vs, ws, rfl, rfl, h1, h2, by rw [r1.length, r2.length]; exact hc, k.lst m (r1.append r2)⟩
    · cases hb
  · rename_i xs ys
    split at hb
    · rename_i hc
      cases hb
      obtain ⟨a, vs, rfl, h1, r1⟩ := hd
      obtain ⟨b, ws, rfl, h2, r2⟩ := he
      refine op_catA pins s σ H _ _ v u Q I rx ry ⟨a, b, vs, ws, rfl, rfl, m.sub.sqT h1, m.sub.sqT h2, by rw [r1.length, r2.length]; exact hc, fun e => ?_, fun _ e => ?_, fun _ _ => k.tup m (r1.append r2)⟩
      · have : xs = [] := by
          have := r1.length; rw [e] at this; exact List.length_eq_zero_iff.mp this.symm
        subst this
        exact k _ H F (Le.refl F) m ⟨b, ws, rfl, h2, r2⟩
      · have : ys = [] := by
          have := r2.length; rw [e] at this; exact List.length_eq_zero_iff.mp this.symm
        subst this
        exact k _ H F (Le.refl F) m ⟨a, vs, rfl, h1, by rw [List.append_nil]; exact r1⟩
    · cases hb
  · rename_i xs j
    split at hb
    · rename_i hc
      cases hb
      obtain ⟨a, vs, rfl, h1, r1⟩ := hd
      cases (show y = .int j from he)
      exact op_rep pins s σ H _ _ v u Q I rx ry ⟨a, j, vs, rfl, rfl, h1, hc.1, hc.2.1, by rw [r1.length]; exact hc.2.2, k.lst m (r1.rep _)⟩
    · cases hb
  · rename_i xs j
    split at hb
    · rename_i hc
      cases hb
      obtain ⟨a, vs, rfl, h1, r1⟩ := hd
      cases (show y = .int j from he)
      refine op_repT pins s σ H _ _ v u Q I rx ry ⟨a, j, vs, rfl, rfl, m.sub.sqT h1, fun e => ?_, hc.2.1, hc.2.2.1, by rw [r1.length]; exact hc.2.2.2, k.tup m (r1.rep _)⟩
      have := r1.length
      rw [e] at this
      exact hc.1 (List.length_eq_zero_iff.mp this.symm)
    · split at hb
      · rename_i hc
        cases hb
        obtain ⟨a, vs, rfl, h1, r1⟩ := hd
        cases (show y = .int j from he)
        have hl := r1.length
        have e0 : ∀ vs' : List V, vs'.length = xs.length → (vs' = [] ↔ xs = []) := fun vs' h => by
          constructor <;> (intro z; subst z; simp at h)
          · exact List.length_eq_zero_iff.mp h.symm
          · exact h
        refine op_repA pins s σ H _ _ v u Q I rx ry ⟨a, j, vs, rfl, rfl, m.sub.sqT h1, hc.1, hc.2.1, ?_, ?_⟩
        · rcases hc.2.2 with h | h
          · exact .inl h
          · exact .inr ((e0 vs hl).mpr h)
        · by_cases hv : vs = [] ∨ j = 1
          · rw [if_pos hv]
            refine k _ H F (Le.refl F) m ⟨a, vs, rfl, h1, ?_⟩
            rcases hv with hv | rfl
            · have := (e0 vs hl).mp hv
              subst this; subst hv
              simp
              exact rfl
            · simpa using r1
          · rw [if_neg hv]
            have hj : j.toNat = 0 := by
              have h1 : xs ≠ [] := fun z => hv (.inl ((e0 vs hl).mpr z))
              have := hc.2.2.resolve_right h1
              have : j ≠ 1 := fun z => hv (.inr z)
              omega
            rw [hj] at k
            exact k.tup m (ds := []) rfl
      · cases hb
  · cases hb

/-! ### comparisons -/
theorem op_inTup (hu : X.A.units + 65 < cLine) : OpR X (compareOp .In) (fun x y H Q => ∃ d ds, Dp X.K H x d ∧ Dp X.K H y (.tuple ds) ∧ SeqAt.shaped d = true ∧ SeqAt.shaped (.tuple ds) = true ∧ Q (.bl (ds.any fun z => PyData.eqv z d)) H) := by
  intro pins s σ H x y v u Q I rx ry h
  obtain ⟨d, ds, hd, he, sd, se, q⟩ := h
  obtain ⟨as, r1⟩ := Dp.reads I d x v hd rx
  obtain ⟨bs, r2⟩ := Dp.reads I (.tuple ds) y u he ry
  exact SeqAt.in_tuple_reads r2 r1 (SeqAt.canLay_of_shaped se) (SeqAt.canLay_of_shaped sd) (room_in_shaped sd hu) ⟨.bl _, H, I, rfl, q⟩
theorem op_notInTup (hu : X.A.units + 65 < cLine) : OpR X (compareOp .NotIn) (fun x y H Q => ∃ d ds, Dp X.K H x d ∧ Dp X.K H y (.tuple ds) ∧ SeqAt.shaped d = true ∧ SeqAt.shaped (.tuple ds) = true ∧ Q (.bl (!ds.any fun z => PyData.eqv z d)) H) := by
  intro pins s σ H x y v u Q I rx ry h
  obtain ⟨d, ds, hd, he, sd, se, q⟩ := h
  obtain ⟨as, r1⟩ := Dp.reads I d x v hd rx
  obtain ⟨bs, r2⟩ := Dp.reads I (.tuple ds) y u he ry
  exact SeqAt.notIn_tuple_reads r2 r1 (SeqAt.canLay_of_shaped se) (SeqAt.canLay_of_shaped sd) (room_in_shaped sd hu) ⟨.bl _, H, I, rfl, q⟩

def rCmp (K : PySem.W.Frag) (op : CmpOp) : R2 := fun x y H Q => ∃ F μ S d e r, Mh K H S F μ ∧ RepH K F H d x ∧ RepH K F H e y ∧ cmpD op d e = some r ∧ Q (.bl r) H
theorem eqD_inv {d e : D} {r : Bool} (h : eqD d e = some r) : ∃ a b, toPy d = some a ∧ toPy e = some b ∧ SeqAt.shaped a = true ∧ SeqAt.shaped b = true ∧ r = PyData.eqv a b := by
  unfold eqD at h
  split at h
  · rename_i a b h1 h2
    split at h
    · rename_i hc
      cases h
      exact ⟨a, b, h1, h2, hc.1, hc.2, rfl⟩
    · cases h
  · cases h
theorem in_ok (hu : X.A.units + 65 < cLine) {neg : Bool} {op : CmpOp} (ho : op = if neg then .NotIn else .In) {pins : List (Addr × Obj)} {s : Shared} {σ : L2.St} {H : Hp} {x y : V} {v u : Value} {Q : VK} (I : Inv X pins σ H s) (rx : RelV x v) (ry : RelV y u)
    {F : Hp} {μ : Fp} {S : Store} {d e : D} {r : Bool} (m : Mh X.K H S F μ) (hd : RepH X.K F H d x) (he : RepH X.K F H e y) (h : isIn d e = some r) (q : Q (.bl (if neg then !r else r)) H) : wpAny (model X.prog X.w) X.A (compareOp op v u) (EP X pins σ Q) X.xe s := by
  unfold isIn at h
  split at h
  · rename_i a xs e1
    split at h
    · rename_i ps e2
      split at h
      · rename_i hc
        cases h
        have k1 := hd.dp m.sub e1
        have k2 : Dp X.K H y (.list ps) := he.dp m.sub (by simp [toPy, e2])
        cases neg with
        | true =>
          simp only [if_true] at ho q
          subst ho
          exact op_notInD hu pins s σ H x y v u Q I rx ry ⟨a, ps, k1, k2, hc.1, hc.2, q⟩
        | false =>
          simp only [Bool.false_eq_true, if_false] at ho q
          subst ho
          exact op_inD hu pins s σ H x y v u Q I rx ry ⟨a, ps, k1, k2, hc.1, hc.2, q⟩
      · cases h
    · cases h
  · rename_i a xs e1
    split at h
    · rename_i ps e2
      split at h
      · rename_i hc
        cases h
        have k1 := hd.dp m.sub e1
        have k2 : Dp X.K H y (.tuple ps) := he.dp m.sub (by simp [toPy, e2])
        cases neg with
        | true =>
          simp only [if_true] at ho q
          subst ho
          exact op_notInTup hu pins s σ H x y v u Q I rx ry ⟨a, ps, k1, k2, hc.1, hc.2, q⟩
        | false =>
          simp only [Bool.false_eq_true, if_false] at ho q
          subst ho
          exact op_inTup hu pins s σ H x y v u Q I rx ry ⟨a, ps, k1, k2, hc.1, hc.2, q⟩
      · cases h
    · cases h
  · cases h
theorem keyOf_repH {K : PySem.W.Frag} {F H : Hp} {e : D} {y : V} {k : L2.Key} (r : RepH K F H e y) (h : keyOf e = some k) : y = kV k := by
  cases e <;> simp [keyOf] at h
  · subst h; exact r
  · subst h; exact r
theorem keysOf_reps {K : PySem.W.Frag} {F : Hp} : ∀ {ds : List D} {vs : List V} {ks : List L2.Key}, Reps K F ds vs → keysOf ds = some ks → vs = ks.map kV
  | [], vs, ks, r, h => by
    cases h
    cases (show vs = [] from r); rfl
  | d :: ds, vs, ks, r, h => by
    obtain ⟨v, vs', rfl, r1, r2⟩ := r
    simp only [keysOf, Option.bind_eq_some_iff, Option.map_eq_some_iff] at h
    obtain ⟨k, hk, ks', hks, rfl⟩ := h
    rw [keysOf_reps r2 hks]
    cases d <;> simp [keyOf] at hk
    · subst hk; cases (show v = .int _ from r1); rfl
    · subst hk; cases (show v = .str _ from r1); rfl
theorem valV_some {kvs : List (L2.Key × V)} {k : L2.Key} : (valV kvs k).isSome = (kvs.map (·.1)).any fun j => decide (j = k) := by
  induction kvs with
  | nil => simp [valV]
  | cons p kvs ih =>
    by_cases hk : p.1 = k
    · rw [valV_pos hk]; simp [hk]
    · rw [valV_neg hk, ih]
      simp [hk]
theorem inD_ok (hu : X.A.units + 65 < cLine) {neg : Bool} {op : CmpOp} (ho : op = if neg then .NotIn else .In) {pins : List (Addr × Obj)} {s : Shared} {σ : L2.St} {H : Hp} {x y : V} {v u : Value} {Q : VK} (I : Inv X pins σ H s) (rx : RelV x v) (ry : RelV y u)
    {F : Hp} {μ : Fp} {S : Store} {d : D} {ks : List L2.Key} {vs : List D} {r : Bool} (m : Mh X.K H S F μ) (hd : RepH X.K F H d x) (he : RepH X.K F H (.dct ks vs) y) (h : inDct d ks = some r) (q : Q (.bl (if neg then !r else r)) H) : wpAny (model X.prog X.w) X.A (compareOp op v u) (EP X pins σ Q) X.xe s := by
  obtain ⟨a, kvs, rfl, h1, hks, r1⟩ := he
  cases ry
  have byKey : ∀ {k : L2.Key}, x = kV k → r = (ks.any fun j => decide (j = k)) → wpAny (model X.prog X.w) X.A (compareOp op v (.ref a)) (EP X pins σ Q) X.xe s := fun {k} ex er => by
    have g : DGet H a x (valV kvs k) := .inl ⟨kvs, k, h1, ex, rfl⟩
    have e : (valV kvs k).isSome = r := by rw [valV_some, hks, er]
    cases neg with
    | true =>
      simp only [if_true] at ho q
      subst ho
      exact d_notIn (by omega) I g rx fun s' I' => ⟨.bl (!(valV kvs k).isSome), H, I', rfl, by rw [e]; exact q⟩
    | false =>
      simp only [Bool.false_eq_true, if_false] at ho q
      subst ho
      exact d_in (by omega) I g rx fun s' I' => ⟨.bl (valV kvs k).isSome, H, I', rfl, by rw [e]; exact q⟩
  unfold inDct at h
  split at h
  · rename_i ds
    split at h
    · rename_i hc
      cases h
      obtain ⟨hk0, hsome⟩ := hc
      cases hkk : keysOf ds with
      | none => rw [hkk] at hsome; cases hsome
      | some kk =>
        obtain ⟨b, us, rfl, hq, r2⟩ := hd
        have eu := keysOf_reps r2 hkk
        subst eu
        obtain ⟨its, rv, ⟨o, ho1, hc1, n, hd1⟩, hz⟩ := I.tuple (m.sub.sqT hq)
        cases rx
        have key : (tupleKind (mixKind X.prog X.w)).is s.heap kk b := ⟨o, its.toArray, n, ho1, hc1, hd1, by simpa using items_are rv⟩
        obtain ⟨z, hm, vs2, rel, o2, es, ep, e1, e2, e3, e4, e5, e6⟩ := dk_rd I.hok h1
        have kvs0 : kvs = [] := by
          have : kvs.map (·.1) = [] := by rw [hks]; exact hk0
          simpa using this
        subst kvs0
        cases rel
        have es0 : es.toList = [] := by
          have e7 := e5
          generalize es.toList = l at e7
          cases e7
          rfl
        have dd : s.heap.DictOfH (tupleKind (mixKind X.prog X.w)) a [] := ⟨o2, es, ep, e1, e2, e3, by rw [es0]; rfl, fun x hx => by simp at hx, List.nodup_nil⟩
        cases neg with
        | true =>
          simp only [if_true] at ho q
          subst ho
          exact wpAny_notIn_heap (tupleKind_room_in1 (by omega)) key hm dd ⟨.bl true, H, I.tok _, rfl, q⟩
        | false =>
          simp only [Bool.false_eq_true, if_false] at ho q
          subst ho
          exact wpAny_in_heap (tupleKind_room_in1 (by omega)) key hm dd ⟨.bl false, H, I.tok _, rfl, q⟩
    · cases h
  · simp only [Option.map_eq_some_iff] at h
    obtain ⟨k, hk, rfl⟩ := h
    exact byKey (keyOf_repH hd hk) rfl
theorem cmp_ok (hu : X.A.units + 65 < cLine) (op : CmpOp) : OpR X (compareOp op) (rCmp X.K op) := by
  intro pins s σ H x y v u Q I rx ry h
  obtain ⟨F, μ, S, d, e, r, m, hd, he, hb, q⟩ := h
  unfold cmpD at hb
  split at hb
  · obtain ⟨a, b, e1, e2, s1, s2, rfl⟩ := eqD_inv hb
    exact op_eqD (by omega) pins s σ H x y v u Q I rx ry ⟨a, b, hd.dp m.sub e1, he.dp m.sub e2, s1, s2, q⟩
  · simp only [Option.map_eq_some_iff] at hb
    obtain ⟨r', hb, rfl⟩ := hb
    obtain ⟨a, b, e1, e2, s1, s2, rfl⟩ := eqD_inv hb
    exact op_neD (by omega) pins s σ H x y v u Q I rx ry ⟨a, b, hd.dp m.sub e1, he.dp m.sub e2, s1, s2, q⟩
  · rename_i i j
    cases hb
    cases (show x = .int i from hd); cases (show y = .int j from he)
    exact op_lt pins s σ H _ _ v u Q I rx ry ⟨i, j, rfl, rfl, q⟩
  · rename_i i j
    cases hb
    cases (show x = .int i from hd); cases (show y = .int j from he)
    exact op_le pins s σ H _ _ v u Q I rx ry ⟨i, j, rfl, rfl, q⟩
  · rename_i i j
    cases hb
    cases (show x = .int i from hd); cases (show y = .int j from he)
    exact op_gt pins s σ H _ _ v u Q I rx ry ⟨i, j, rfl, rfl, q⟩
  · rename_i i j
    cases hb
    cases (show x = .int i from hd); cases (show y = .int j from he)
    exact op_ge pins s σ H _ _ v u Q I rx ry ⟨i, j, rfl, rfl, q⟩
  · rename_i xs ys
    split at hb
    · rename_i ns ms e1 e2
      cases hb
      obtain ⟨a, vs, rfl, h1, r1⟩ := hd
      obtain ⟨b, ws, rfl, h2, r2⟩ := he
      have g1 := r1.ints e1
      have g2 := r2.ints e2
      subst g1; subst g2
      exact op_ltT (by omega) pins s σ H _ _ v u Q I rx ry ⟨a, b, ns, ms, rfl, rfl, m.sub.sqT h1, m.sub.sqT h2, q⟩
    · cases hb
  · cases hb
    cases (show y = .non from he)
    exact op_isN pins s σ H _ _ v u Q I rx ry ⟨rfl, by rw [hd.non_iff]; exact q⟩
  · cases hb
    cases (show y = .non from he)
    exact op_notN pins s σ H _ _ v u Q I rx ry ⟨rfl, by rw [hd.non_iff]; exact q⟩
  · rename_i i j
    cases hb
    cases (show x = .bl i from hd); cases (show y = .bl j from he)
    exact op_isBl pins s σ H _ _ v u Q I rx ry ⟨i, j, rfl, rfl, q⟩
  · rename_i i j
    cases hb
    cases (show x = .bl i from hd); cases (show y = .bl j from he)
    exact op_notBl pins s σ H _ _ v u Q I rx ry ⟨i, j, rfl, rfl, q⟩
  · rename_i d' ks ds
    exact inD_ok (neg := false) hu rfl I rx ry m hd he hb q
  · rename_i d' ks ds
    simp only [Option.map_eq_some_iff] at hb
    obtain ⟨r', hb, rfl⟩ := hb
    exact inD_ok (neg := true) hu rfl I rx ry m hd he hb q
  · exact in_ok (neg := false) hu rfl I rx ry m hd he hb q
  · simp only [Option.map_eq_some_iff] at hb
    obtain ⟨r', hb, rfl⟩ := hb
    exact in_ok (neg := true) hu rfl I rx ry m hd he hb q
  · cases hb

/-! ### truth -/
theorem tru_of {K : PySem.W.Frag} {F H : Hp} {μ : Fp} {S : Store} {d : D} {x : V} {k : Bool} (m : Mh K H S F μ) (r : RepH K F H d x) (h : truD d = some k) : TruV K x H k := by
  cases d with
  | non => cases (show x = .non from r); simp [truD] at h; exact h
  | bl b => cases (show x = .bl b from r); simp [truD] at h; exact h.symm
  | int i => cases (show x = .int i from r); simp [truD] at h; exact h.symm
  | str z =>
    cases (show x = .str z from r)
    simp only [truD] at h
    split at h
    · rename_i hc; cases h; exact ⟨hc, rfl⟩
    · cases h
  | tup ds =>
    obtain ⟨a, vs, rfl, q, r⟩ := r
    have h' : k = !ds.isEmpty := (Option.some.inj h).symm
    refine .inr (.inl ⟨vs, m.sub.sqT q, ?_⟩)
    subst h'
    have := r.length
    cases ds <;> cases vs <;> simp_all
  | lst ds =>
    obtain ⟨a, vs, rfl, q, r⟩ := r
    have h' : k = !ds.isEmpty := (Option.some.inj h).symm
    refine .inl ⟨vs, .of q, ?_⟩
    subst h'
    have := r.length
    cases ds <;> cases vs <;> simp_all
  | scr _ => simp [truD] at h
  | fn _ => simp [truD] at h
  | dct _ _ => simp [truD] at h

/-! ### items, slices -/
theorem atI_rep {K : PySem.W.Frag} {F : Hp} {ds : List D} {vs : List V} {i : Int} {d : D} (r : Reps K F ds vs) (h : L2.atI ds i = some d) : ∃ v, L2.atI vs i = some v ∧ Rep K F d v := by
  unfold L2.atI at h ⊢
  rw [r.length]
  cases e : ixN ds.length i with
  | none => rw [e] at h; cases h
  | some j =>
    rw [e] at h
    exact r.get (show ds[j]? = some d from h)
/-- d[k] -/
theorem ix_dct (hu : X.A.units + 1 < cLine) : IxR X (fun x y H Q => ∃ a v, x = .ref a ∧ DGet H a y (some v) ∧ Q v H) := by
  intro value slice pins s σ H x y v u Q I rx ry h hs
  obtain ⟨a, w, rfl, g, q⟩ := h
  cases rx
  exact tail_any (dict_typeIs I g) PySem.F.slot_dict_getitem.lookup (d_getItem hu I g ry fun w' s3 I3 rw' => ⟨w, H, I3, rw', q⟩) hs
theorem keyOf_rep {K : PySem.W.Frag} {F : Hp} {e : D} {y : V} {k : L2.Key} (r : Rep K F e y) (h : keyOf e = some k) : y = kV k := by
  cases e <;> simp [keyOf] at h
  · subst h; exact r
  · subst h; exact r
theorem dget_rep {K : PySem.W.Frag} {F : Hp} : ∀ {kvs : List (L2.Key × V)} {ds : List D} {k : L2.Key} {d : D}, Reps K F ds (kvs.map (·.2)) → dget (kvs.map (·.1)) ds k = some d → ∃ v, valV kvs k = some v ∧ Rep K F d v
  | [], _, _, _, _, h => by simp [dget] at h
  | p :: kvs, ds, k, d, r, h => by
    cases ds with
    | nil => simp [dget] at h
    | cons d0 ds =>
      obtain ⟨v, vs, e, r1, r2⟩ := r
      simp only [List.map_cons, List.cons.injEq] at e
      obtain ⟨rfl, rfl⟩ := e
      simp only [List.map_cons, dget] at h
      split at h
      · rename_i hk
        cases h
        exact ⟨p.2, valV_pos hk, r1⟩
      · rename_i hk
        obtain ⟨v, h1, h2⟩ := dget_rep r2 h
        exact ⟨v, by rw [valV_neg hk]; exact h1, h2⟩
def rIxD (K : PySem.W.Frag) : R2 := fun x y H Q => ∃ F μ S d e r, Mh K H S F μ ∧ RepH K F H d x ∧ Rep K F e y ∧ ixD d e = some r ∧ ∀ b, Rep K F r b → Q b H
theorem ix_ok (hu : X.A.units + 1 < cLine) : IxR X (rIxD X.K) := by
  intro value slice pins s σ H x y v u Q I rx ry h hs
  obtain ⟨F, μ, S, d, e, r, m, hd, he, hb, k⟩ := h
  unfold ixD at hb
  split at hb
  · rename_i xs i
    obtain ⟨a, vs, rfl, h1, r1⟩ := hd
    cases (show y = .int i from he)
    obtain ⟨w', g1, g2⟩ := atI_rep r1 hb
    exact ix_list value slice pins s σ H _ _ v u Q I rx ry ⟨a, vs, i, w', rfl, rfl, .of h1, g1, k w' g2⟩ hs
  · rename_i xs i
    obtain ⟨a, vs, rfl, h1, r1⟩ := hd
    cases (show y = .int i from he)
    obtain ⟨w', g1, g2⟩ := atI_rep r1 hb
    exact ix_tup value slice pins s σ H _ _ v u Q I rx ry ⟨a, vs, i, w', rfl, rfl, m.sub.sqT h1, g1, k w' g2⟩ hs
  · rename_i z i
    cases (show x = .str z from hd)
    cases (show y = .int i from he)
    split at hb
    · rename_i hc
      simp only [Option.map_eq_some_iff] at hb
      obtain ⟨c, g, rfl⟩ := hb
      exact ix_str value slice pins s σ H _ _ v u Q I rx ry ⟨z, i, c, rfl, rfl, hc, g, k _ rfl⟩ hs
    · cases hb
  · rename_i ks ds
    obtain ⟨a, kvs, rfl, h1, rfl, r1⟩ := hd
    simp only [Option.bind_eq_some_iff] at hb
    obtain ⟨kk, hk, hb⟩ := hb
    obtain ⟨v', g1, g2⟩ := dget_rep r1 hb
    exact ix_dct hu value slice pins s σ H _ _ v u Q I rx ry ⟨a, v', rfl, .inl ⟨kvs, kk, h1, keyOf_rep he hk, g1.symm⟩, k v' g2⟩ hs
  · cases hb
theorem cut_rep {K : PySem.W.Frag} {F : Hp} {ds : List D} {vs : List V} (lo hi : Option Int) (r : Reps K F ds vs) : Reps K F (cutD ds lo hi) (cutV vs lo hi) := by
  unfold cutD cutV
  rw [r.length]
  exact (r.drop _).take _
theorem cutD_whole {ds : List D} {lo hi : Option Int} (h : HT.sIx ds.length 0 lo = 0 ∧ HT.sIx ds.length ds.length hi = ds.length) : cutD ds lo hi = ds := by
  unfold cutD
  rw [h.1, h.2]
  simp
def rSlD (K : PySem.W.Frag) : V → Option Int → Option Int → Hp → VK → Prop := fun x lo hi H Q => ∃ F μ S d r, Mh K H S F μ ∧ RepH K F H d x ∧ slD d lo hi = some r ∧ K1 K F μ S r Q
theorem sl_ok : SlR X (rSlD X.K) := by
  intro pins s σ H x v vl vu lo hi sl Q I rx hs pl pu h
  obtain ⟨F, μ, S, d, r, m, hd, hb, k⟩ := h
  unfold slD at hb
  split at hb
  · cases hb
    obtain ⟨a, vs, rfl, h1, r1⟩ := hd
    exact sl_list pins s σ H _ v vl vu lo hi sl Q I rx hs pl pu ⟨a, vs, rfl, .of h1, k.lst m (cut_rep lo hi r1)⟩
  · rename_i xs
    cases hb
    obtain ⟨a, vs, rfl, h1, r1⟩ := hd
    refine sl_tupA pins s σ H _ v vl vu lo hi sl Q I rx hs pl pu ⟨a, vs, rfl, m.sub.sqT h1, fun e => ?_, fun _ => k.tup m (cut_rep lo hi r1)⟩
    rw [r1.length] at e
    rw [cutD_whole e] at k
    exact k _ H F (Le.refl F) m ⟨a, vs, rfl, h1, r1⟩
  · cases hb
end
end DV

set_option Elab.async false
set_option linter.all false
set_option maxRecDepth 100000
set_option maxHeartbeats 4000000
/-! DV4: the built-in functions. -/
namespace DV
open PySem PySem.Spec PyProof.Rows L2

def RepHs (K : PySem.W.Frag) (F H : Hp) : List D → List V → Prop
  | [], xs => xs = []
  | d :: ds, xs => ∃ v vs, xs = v :: vs ∧ RepH K F H d v ∧ RepHs K F H ds vs
theorem ders_rep {K : PySem.W.Frag} {H : Hp} {S : Store} {F : Hp} {μ : Fp} (m : Mh K H S F μ) : ∀ {vs : List Sv} {xs : List V} {ds : List D}, RepSs K F μ vs xs → ders S vs = some ds → RepHs K F H ds xs
  | [], _, _, h, e => by cases h; simp [ders] at e; subst e; rfl
  | v :: vs, _, _, ⟨x, xs, ev, h, r⟩, e => by
    subst ev
    unfold ders at e
    cases e1 : der S v with
    | none => rw [e1] at e; cases e
    | some d =>
      rw [e1] at e
      simp only [Option.map_eq_some_iff] at e
      obtain ⟨ds, e2, rfl⟩ := e
      exact ⟨x, xs, rfl, der_rep m h e1, ders_rep m r e2⟩
section
variable {K : PySem.W.Frag} {F H : Hp}
theorem RepHs.one {d : D} {xs : List V} (h : RepHs K F H [d] xs) : ∃ x, xs = [x] ∧ RepH K F H d x := by
  obtain ⟨x, _, rfl, h, rfl⟩ := h
  exact ⟨x, rfl, h⟩
theorem RepHs.two {d e : D} {xs : List V} (h : RepHs K F H [d, e] xs) : ∃ x y, xs = [x, y] ∧ RepH K F H d x ∧ RepH K F H e y := by
  obtain ⟨x, _, rfl, h, y, _, rfl, h2, rfl⟩ := h
  exact ⟨x, y, rfl, h, h2⟩
end
def rBi (K : PySem.W.Frag) (f : List D → Option D) : List V → Hp → VK → Prop := fun xs H Q => ∃ F μ S ds r, Mh K H S F μ ∧ RepHs K F H ds xs ∧ f ds = some r ∧ K1 K F μ S r Q

theorem foldl_max : ∀ (xs : List Int) (a : Int), (xs.foldl (fun a b => if b > a then b else a) a ∈ a :: xs) ∧ ∀ y ∈ a :: xs, y ≤ xs.foldl (fun a b => if b > a then b else a) a
  | [], a => ⟨by simp, by simp⟩
  | x :: xs, a => by
    rw [List.foldl_cons]
    obtain ⟨h1, h2⟩ := foldl_max xs (if x > a then x else a)
    refine ⟨?_, fun y hy => ?_⟩
    · rcases List.mem_cons.mp h1 with e | e
      · rw [e]; split <;> simp
      · simp [e]
    · have h3 := h2 _ (List.mem_cons_self)
      rcases List.mem_cons.mp hy with rfl | hy
      · split at h3 <;> split <;> omega
      · rcases List.mem_cons.mp hy with rfl | hy
        · split at h3 <;> split <;> omega
        · exact h2 y (List.mem_cons_of_mem _ hy)
theorem foldl_min : ∀ (xs : List Int) (a : Int), (xs.foldl (fun a b => if b < a then b else a) a ∈ a :: xs) ∧ ∀ y ∈ a :: xs, xs.foldl (fun a b => if b < a then b else a) a ≤ y
  | [], a => ⟨by simp, by simp⟩
  | x :: xs, a => by
    rw [List.foldl_cons]
    obtain ⟨h1, h2⟩ := foldl_min xs (if x < a then x else a)
    refine ⟨?_, fun y hy => ?_⟩
    · rcases List.mem_cons.mp h1 with e | e
      · rw [e]; split <;> simp
      · simp [e]
    · have h3 := h2 _ (List.mem_cons_self)
      rcases List.mem_cons.mp hy with rfl | hy
      · split at h3 <;> split <;> omega
      · rcases List.mem_cons.mp hy with rfl | hy
        · split at h3 <;> split <;> omega
        · exact h2 y (List.mem_cons_of_mem _ hy)
theorem maxI_is {ns : List Int} {m : Int} (h : maxI ns = some m) : 0 < ns.length ∧ m ∈ ns ∧ ∀ y ∈ ns, y ≤ m := by
  cases ns with
  | nil => cases h
  | cons x xs =>
    simp [maxI] at h
    subst h
    exact ⟨by simp, (foldl_max xs x).1, (foldl_max xs x).2⟩
theorem minI_is {ns : List Int} {m : Int} (h : minI ns = some m) : 0 < ns.length ∧ m ∈ ns ∧ ∀ y ∈ ns, m ≤ y := by
  cases ns with
  | nil => cases h
  | cons x xs =>
    simp [minI] at h
    subst h
    exact ⟨by simp, (foldl_min xs x).1, (foldl_min xs x).2⟩

section
variable {X : Cx}
theorem bi_len : CallR X (.builtin "len") (rBi X.K biLen) := by
  intro pins s σ H xs us Q I r h
  obtain ⟨F, μ, S, ds, d, m, hr, hb, k⟩ := h
  unfold biLen at hb
  split at hb
  · cases hb
    obtain ⟨x, rfl, a, vs, rfl, h1, r1⟩ := hr.one
    exact call_len pins s σ H _ us Q I r ⟨_, _, rfl, .inl ⟨vs, .of h1, rfl⟩, by rw [r1.length]; exact k.int m⟩
  · cases hb
    obtain ⟨x, rfl, a, vs, rfl, h1, r1⟩ := hr.one
    exact call_len pins s σ H _ us Q I r ⟨_, _, rfl, .inr ⟨vs, m.sub.sqT h1, rfl⟩, by rw [r1.length]; exact k.int m⟩
  · split at hb
    · rename_i z hc
      cases hb
      obtain ⟨x, rfl, hx⟩ := hr.one
      cases (show x = .str z from hx)
      exact call_len pins s σ H _ us Q I r ⟨_, _, rfl, ⟨hc, rfl⟩, k.int m⟩
    · cases hb
  · cases hb
theorem bi_abs : CallR X (.builtin "abs") (rBi X.K biAbs) := by
  intro pins s σ H xs us Q I r h
  obtain ⟨F, μ, S, ds, d, m, hr, hb, k⟩ := h
  unfold biAbs at hb
  split at hb
  · rename_i i
    cases hb
    obtain ⟨x, rfl, hx⟩ := hr.one
    cases (show x = .int i from hx)
    exact call_abs pins s σ H _ us Q I r ⟨_, rfl, k.int m⟩
  · cases hb
theorem bi_max (hc : X.calm = true) : CallR X (.builtin "max") (rBi X.K biMax) := by
  intro pins s σ H xs us Q I r h
  obtain ⟨F, μ, S, ds, d, m, hr, hb, k⟩ := h
  unfold biMax at hb
  split at hb
  · rename_i i j
    cases hb
    obtain ⟨x, y, rfl, hx, hy⟩ := hr.two
    cases (show x = .int i from hx); cases (show y = .int j from hy)
    exact call_max2 hc pins s σ H _ us Q I r ⟨_, _, rfl, k.int m⟩
  · rename_i ds'
    obtain ⟨x, rfl, a, vs, rfl, h1, r1⟩ := hr.one
    cases e : intsOf ds' with
    | none => rw [e] at hb; cases hb
    | some ns =>
      rw [e] at hb
      simp only [Option.bind_some, Option.map_eq_some_iff] at hb
      obtain ⟨M, hM, rfl⟩ := hb
      have g := r1.ints e
      subst g
      obtain ⟨p1, p2, p3⟩ := maxI_is hM
      refine cr_max hc pins s σ H _ us Q I r ⟨a, ns, rfl, .of h1, p1, fun m' h1 h2 => ?_⟩
      have : m' = M := by
        have := p3 m' h1
        have := h2 M p2
        omega
      subst this
      exact k.int m
  · cases hb
theorem bi_min (hc : X.calm = true) : CallR X (.builtin "min") (rBi X.K biMin) := by
  intro pins s σ H xs us Q I r h
  obtain ⟨F, μ, S, ds, d, m, hr, hb, k⟩ := h
  unfold biMin at hb
  split at hb
  · rename_i i j
    cases hb
    obtain ⟨x, y, rfl, hx, hy⟩ := hr.two
    cases (show x = .int i from hx); cases (show y = .int j from hy)
    exact call_min2 hc pins s σ H _ us Q I r ⟨_, _, rfl, k.int m⟩
  · rename_i ds'
    obtain ⟨x, rfl, a, vs, rfl, h1, r1⟩ := hr.one
    cases e : intsOf ds' with
    | none => rw [e] at hb; cases hb
    | some ns =>
      rw [e] at hb
      simp only [Option.bind_some, Option.map_eq_some_iff] at hb
      obtain ⟨M, hM, rfl⟩ := hb
      have g := r1.ints e
      subst g
      obtain ⟨p1, p2, p3⟩ := minI_is hM
      refine cr_min hc pins s σ H _ us Q I r ⟨a, ns, rfl, .of h1, p1, fun m' h1 h2 => ?_⟩
      have : m' = M := by
        have := p3 m' h1
        have := h2 M p2
        omega
      subst this
      exact k.int m
  · cases hb
theorem bi_sum (hc : X.calm = true) : CallR X (.builtin "sum") (rBi X.K biSum) := by
  intro pins s σ H xs us Q I r h
  obtain ⟨F, μ, S, ds, d, m, hr, hb, k⟩ := h
  unfold biSum at hb
  split at hb
  · simp only [Option.map_eq_some_iff] at hb
    obtain ⟨ns, e, rfl⟩ := hb
    obtain ⟨x, rfl, a, vs, rfl, h1, r1⟩ := hr.one
    have g := r1.ints e
    subst g
    exact cr_sum hc pins s σ H _ us Q I r ⟨a, ns, rfl, .of h1, k.int m⟩
  · cases hb
theorem bi_any (hc : X.calm = true) : CallR X (.builtin "any") (rBi X.K biAny) := by
  intro pins s σ H xs us Q I r h
  obtain ⟨F, μ, S, ds, d, m, hr, hb, k⟩ := h
  unfold biAny at hb
  split at hb
  · simp only [Option.map_eq_some_iff] at hb
    obtain ⟨ns, e, rfl⟩ := hb
    obtain ⟨x, rfl, a, vs, rfl, h1, r1⟩ := hr.one
    have g := r1.bls e
    subst g
    exact cr_any hc pins s σ H _ us Q I r ⟨a, ns, rfl, .of h1, k.bl m⟩
  · cases hb
theorem bi_all (hc : X.calm = true) : CallR X (.builtin "all") (rBi X.K biAll) := by
  intro pins s σ H xs us Q I r h
  obtain ⟨F, μ, S, ds, d, m, hr, hb, k⟩ := h
  unfold biAll at hb
  split at hb
  · simp only [Option.map_eq_some_iff] at hb
    obtain ⟨ns, e, rfl⟩ := hb
    obtain ⟨x, rfl, a, vs, rfl, h1, r1⟩ := hr.one
    have g := r1.bls e
    subst g
    exact cr_all hc pins s σ H _ us Q I r ⟨a, ns, rfl, .of h1, k.bl m⟩
  · cases hb
theorem bi_int : CallR X (.type "int") (rBi X.K biInt) := by
  intro pins s σ H xs us Q I r h
  obtain ⟨F, μ, S, ds, d, m, hr, hb, k⟩ := h
  unfold biInt at hb
  split at hb
  · rename_i i
    cases hb
    obtain ⟨x, rfl, hx⟩ := hr.one
    cases (show x = .int i from hx)
    exact call_int1 pins s σ H _ us Q I r (.inl ⟨_, rfl, k.int m⟩)
  · rename_i i
    cases hb
    obtain ⟨x, rfl, hx⟩ := hr.one
    cases (show x = .bl i from hx)
    exact call_int1 pins s σ H _ us Q I r (.inr ⟨_, rfl, k.int m⟩)
  · cases hb
theorem bi_str : CallR X (.type "str") (rBi X.K biStr) := by
  intro pins s σ H xs us Q I r h
  obtain ⟨F, μ, S, ds, d, m, hr, hb, k⟩ := h
  unfold biStr at hb
  split at hb
  · rename_i i
    split at hb
    · rename_i hz
      cases hb
      obtain ⟨x, rfl, hx⟩ := hr.one
      cases (show x = .int i from hx)
      exact call_str_int pins s σ H _ us Q I r ⟨i, rfl, hz, k.str m⟩
    · cases hb
  · cases hb
theorem bi_tuple : CallR X (.type "tuple") (rBi X.K biTuple) := by
  intro pins s σ H xs us Q I r h
  obtain ⟨F, μ, S, ds, d, m, hr, hb, k⟩ := h
  unfold biTuple at hb
  split at hb
  · cases hb
    obtain ⟨x, rfl, a, vs, rfl, h1, r1⟩ := hr.one
    exact call_tuple_of pins s σ H _ us Q I r ⟨a, vs, rfl, .inl ⟨.of h1, k.tup m r1⟩⟩
  · cases hb
    obtain ⟨x, rfl, a, vs, rfl, h1, r1⟩ := hr.one
    exact call_tuple_of pins s σ H _ us Q I r ⟨a, vs, rfl, .inr ⟨m.sub.sqT h1, k _ H F (Le.refl F) m ⟨a, vs, rfl, h1, r1⟩⟩⟩
  · cases hb
theorem bi_list : CallR X (.type "list") (rBi X.K biList) := by
  intro pins s σ H xs us Q I r h
  obtain ⟨F, μ, S, ds, d, m, hr, hb, k⟩ := h
  unfold biList at hb
  split at hb
  · cases hb
    obtain ⟨x, rfl, a, vs, rfl, h1, r1⟩ := hr.one
    exact call_list_of pins s σ H _ us Q I r ⟨a, vs, rfl, .inl (.of h1), k.lst m r1⟩
  · cases hb
    obtain ⟨x, rfl, a, vs, rfl, h1, r1⟩ := hr.one
    exact call_list_of pins s σ H _ us Q I r ⟨a, vs, rfl, .inr (m.sub.sqT h1), k.lst m r1⟩
  · rename_i ns
    cases hb
    obtain ⟨x, rfl, a, rfl, h1⟩ := hr.one
    exact call_list_of pins s σ H _ us Q I r ⟨a, _, rfl, .inl (m.sub.sqL h1), k.lst m (Reps.ofInts ns)⟩
  · cases hb

/-! ### sorted -/
/-- the value v stands for d -/
def Std (K : PySem.W.Frag) (F : Hp) (v : Value) (d : D) : Prop := ∃ x, RelV x v ∧ Rep K F d x
theorem each_of {K : PySem.W.Frag} {F : Hp} : ∀ {ds : List D} {vs : List V} {us : List Value}, Reps K F ds vs → Vals vs us → PySem.W.EachIs (Std K F) us ds
  | [], _, _, h, r => by cases h; cases r; exact .nil
  | d :: ds, _, _, ⟨v, vs, e, h, t⟩, r => by
    subst e
    cases r with
    | cons r1 r2 => exact .cons ⟨v, r1, h⟩ (each_of t r2)
theorem each_to {K : PySem.W.Frag} {F : Hp} : ∀ {us : List Value} {ds : List D}, PySem.W.EachIs (Std K F) us ds → ∃ vs, Vals vs us ∧ Reps K F ds vs
  | _, _, .nil => ⟨[], .nil, rfl⟩
  | _, _, .cons h t => by
    obtain ⟨x, r1, r2⟩ := h
    obtain ⟨vs, q1, q2⟩ := each_to t
    exact ⟨x :: vs, .cons r1 q1, Reps.cons r2 q2⟩
theorem encD_of {d : D} (h : (toPy d).isSome = true) : toPy d = some (encD d) := by
  obtain ⟨p, e⟩ := Option.isSome_iff_exists.mp h
  unfold encD; rw [e]; rfl
section
open PySem.W PySem.Calls PyProof.Rows
theorem sorted_collected {prog : Program} {w : World} {A : Around} {E : Value → Shared → Prop} {s : Shared} {β : Type} {bs : List β} {enc : β → PyData} {R : Value → β → Prop} {l : Addr} {Q : Value → Shared → Prop}
    (col : ∀ G : List Value → Shared → Prop, (∀ (h1 : Heap) (tk : Nat) (vs : List Value), (∀ b o, s.heap.get? b = some o → h1.get? b = some o) → EachIs R vs bs → EachIs (fun v b => ∃ as, Reads h1 v (enc b) as) vs bs → G vs { s with heap := h1, toks := tk }) → wpAny (model prog w) A.in1 (collect (.ref l)) G E s)
    (hal : AllAlike (bs.map enc)) (hk : PySem.W.Sortable (bs.map enc)) (hL : bs.length ≤ sizeLine)
    (hu : ∀ b, b ∈ bs → A.units + 2 + (enc b).depth < cLine)
    (h : ∀ (h1 h' : Heap) (tk : Nat) (out : List Value) (c : Nat), (∀ b o, s.heap.get? b = some o → h1.get? b = some o) → (∀ b o, h1.get? b = some o → h'.get? b = some o) → out.length = bs.length → EachIs R out (bs.mergeSort (dataLe false enc)) → h'.get? h1.objs.size = some (seqObj "list" out.toArray c) → Q (.ref h1.objs.size) { s with heap := h', toks := tk }) :
    wpAny (model prog w) A (call (.builtin "sorted") [.ref l]) Q E s := by
  refine call_function_entry_kw kind_sorted plain_sorted entry_sorted (args_sorted1 _) ?_
  unfold Builtin.«sorted»
  refine wpAny_bind (m := checkCount "sorted" 1 1 _) (wpAny_pure ?_)
  refine wpAny_bind (col _ fun h1 tk vs kp e er => ?_)
  have hlen : vs.length ≤ sizeLine := by rw [e.length]; exact hL
  refine wpAny_bind (wpAny_newList ?_ hlen)
  have ha : (h1.push (seqObj "list" vs.toArray 0)).get? h1.objs.size = some (seqObj "list" vs.toArray 0) := Heap.get?_push_size _ rfl
  show wpAny _ _ _ _ _ { s with heap := h1.push (seqObj "list" vs.toArray 0), toks := tk }
  refine wpAny_bind (wpAny_holding (wpAny_call_entry_kw slot_list_sort ⟨_, ha, rfl⟩ entry_list_sort ?body (args_list_sort _)))
  case body =>
    show wpAny (model prog w) A.in1.in1 (Builtin.«list.sort» ⟨[.ref h1.objs.size], []⟩) _ _ _
    have er' : EachIs (fun v b => ∃ as, Reads (sortingHeap (h1.push (seqObj "list" vs.toArray 0)) h1.objs.size vs) v (enc b) as) vs bs := er.mono fun _ _ ⟨as, r⟩ => ⟨as, PyProof.Rows.Reads.keeps (fun b o q => sortingHeap_old (Nat.ne_of_lt (Heap.lt_size q)) (Heap.get?_push_of_some _ q)) r⟩
    obtain ⟨c, hc'⟩ := sortedHeap_at (vs := vs) (out := (sortVals (dataKind (sortingHeap (h1.push (seqObj "list" vs.toArray 0)) h1.objs.size vs) (bs.map enc)) false vs vs).toArray) ha
    refine wpAny_mono (list_sort_vals (κ := dataKind (sortingHeap (h1.push (seqObj "list" vs.toArray 0)) h1.objs.size vs) (bs.map enc)) (s := { s with heap := h1.push (seqObj "list" vs.toArray 0), toks := tk }) (P := fun f s' => f = .done (.ret .none) ∧ Q (.ref h1.objs.size) s') (E := fun _ _ => False) ha
      (SortsAt.data (s := { s with heap := sortingHeap (h1.push (seqObj "list" vs.toArray 0)) h1.objs.size vs, toks := tk }) (each_map (R := fun v d => ∃ as, Reads (sortingHeap (h1.push (seqObj "list" vs.toArray 0)) h1.objs.size vs) v d as) enc er') hal hk (bound_map hu)) hlen
      ⟨rfl, h _ _ _ _ c kp (fun b o q => (sortedHeap_old (Nat.ne_of_lt (Heap.lt_size q)) (Heap.lt_size (Heap.get?_push_of_some _ q))).trans (Heap.get?_push_of_some _ q)) (by rw [sortVals_length false rfl]; exact e.length) (sortVals_data false e er' hal) hc'⟩) (fun f s' hf => ?_) fun _ _ e => e.elim
    obtain ⟨rfl, hq⟩ := hf
    exact ⟨_, rfl, wpAny_pure ⟨_, rfl, hq⟩⟩
end
theorem each_at {R : Value → D → Prop} : ∀ {us : List Value} {ds : List D}, us.length = ds.length → (∀ (j : Nat) (u : Value) (d : D), us[j]? = some u → ds[j]? = some d → R u d) → PySem.W.EachIs R us ds
  | [], [], _, _ => .nil
  | [], _ :: _, h, _ => by simp at h
  | _ :: _, [], h, _ => by simp at h
  | u :: us, d :: ds, h, f => .cons (f 0 u d rfl rfl) (each_at (by simpa using h) fun j u d h1 h2 => f (j + 1) u d (by simpa using h1) (by simpa using h2))
/-! ### dict -/
def KR (K : PySem.W.Frag) (F : Hp) (a : L2.Key × D) (b : L2.Key × V) : Prop := a.1 = b.1 ∧ Rep K F a.2 b.2
section
variable {K : PySem.W.Frag} {F : Hp}
theorem kr_keys : ∀ {a : List (L2.Key × D)} {b : List (L2.Key × V)}, Paired (KR K F) a b → b.map (·.1) = a.map (·.1)
  | _, _, .nil => rfl
  | _, _, .cons h t => by rw [List.map_cons, List.map_cons, kr_keys t, h.1]
theorem kr_vals : ∀ {a : List (L2.Key × D)} {b : List (L2.Key × V)}, Paired (KR K F) a b → Reps K F (a.map (·.2)) (b.map (·.2))
  | _, _, .nil => rfl
  | _, _, .cons h t => Reps.cons h.2 (kr_vals t)
theorem kr_any (k : L2.Key) : ∀ {a : List (L2.Key × D)} {b : List (L2.Key × V)}, Paired (KR K F) a b → (a.any fun kv => decide (kv.1 = k)) = (b.any fun kv => decide (kv.1 = k))
  | _, _, .nil => rfl
  | _, _, .cons h t => by rw [List.any_cons, List.any_cons, kr_any k t, h.1]
theorem kr_repl (k : L2.Key) {d : D} {v : V} (r : Rep K F d v) : ∀ {a : List (L2.Key × D)} {b : List (L2.Key × V)}, Paired (KR K F) a b → Paired (KR K F) (a.map fun kv => if kv.1 = k then (kv.1, d) else kv) (b.map fun kv => if kv.1 = k then (kv.1, v) else kv)
  | _, _, .nil => .nil
  | _, _, .cons (a := a) (b := b) h t => by
    refine .cons ?_ (kr_repl k r t)
    show KR K F (if a.1 = k then (a.1, d) else a) (if b.1 = k then (b.1, v) else b)
    by_cases e : a.1 = k
    · rw [if_pos e, if_pos (h.1.symm.trans e)]; exact ⟨h.1, r⟩
    · rw [if_neg e, if_neg (fun z => e (h.1.trans z))]; exact h
theorem kr_put {k : L2.Key} {d : D} {v : V} (r : Rep K F d v) {a : List (L2.Key × D)} {b : List (L2.Key × V)} (h : Paired (KR K F) a b) : Paired (KR K F) (putZ a k d) (putK b k v) := by
  unfold putZ putK
  rw [kr_any k h]
  split
  · exact kr_repl k r h
  · exact h.snoc ⟨rfl, r⟩
theorem kr_merge : ∀ {more : List (L2.Key × D)} {mv : List (L2.Key × V)}, Paired (KR K F) more mv → ∀ {a : List (L2.Key × D)} {b : List (L2.Key × V)}, Paired (KR K F) a b → Paired (KR K F) (mergeZ a more) (mergeK b mv)
  | _, _, .nil, _, _, h => h
  | _, _, .cons (a := p) (b := q) h t, a, b, hab => by
    obtain ⟨e, r⟩ := h
    have := kr_merge t (kr_put (k := p.1) r hab)
    show Paired (KR K F) (mergeZ (putZ a p.1 p.2) _) (mergeK (putK b q.1 q.2) _)
    rw [← e]
    exact this
theorem tup2_rep {d e : D} {v : V} (h : Rep K F (.tup [d, e]) v) : ∃ a w1 w2, v = .ref a ∧ SqT K F a [w1, w2] ∧ Rep K F d w1 ∧ Rep K F e w2 := by
  obtain ⟨a, ws, rfl, q, w1, _, rfl, h1, w2, _, rfl, h2, rfl⟩ := h
  exact ⟨a, w1, w2, rfl, q, h1, h2⟩
theorem pairs_rep : ∀ {ds : List D} {vs : List V} {r : List (L2.Key × D)}, Reps K F ds vs → pairsD ds = some r → ∃ (ps : List Addr) (kvs : List (L2.Key × V)), vs = ps.map V.ref ∧ Paired (fun p kv => SqT K F p [kV kv.1, kv.2]) ps kvs ∧ Paired (KR K F) r kvs := by
  intro ds
  induction ds with
  | nil =>
    intro vs r h e
    cases (show vs = [] from h)
    cases (show some [] = some r from e)
    exact ⟨[], [], rfl, .nil, .nil⟩
  | cons d ds ih =>
    intro vs r h e
    obtain ⟨v, vs', rfl, hv, t⟩ := h
    unfold pairsD at e
    split at e
    · rename_i hz
      cases hz
    · rename_i i d' ds' hz
      cases hz
      simp only [Option.map_eq_some_iff] at e
      obtain ⟨r', e', rfl⟩ := e
      obtain ⟨a, w1, w2, rfl, q, h1, h2⟩ := tup2_rep hv
      obtain ⟨ps, kvs, g1, g2, g3⟩ := ih t e'
      subst g1
      cases (show w1 = V.int i from h1)
      exact ⟨a :: ps, (.inl i, w2) :: kvs, rfl, .cons q g2, .cons ⟨rfl, h2⟩ g3⟩
    · rename_i x d' ds' hz
      cases hz
      simp only [Option.map_eq_some_iff] at e
      obtain ⟨r', e', rfl⟩ := e
      obtain ⟨a, w1, w2, rfl, q, h1, h2⟩ := tup2_rep hv
      obtain ⟨ps, kvs, g1, g2, g3⟩ := ih t e'
      subst g1
      cases (show w1 = V.str x from h1)
      exact ⟨a :: ps, (.inr x, w2) :: kvs, rfl, .cons q g2, .cons ⟨rfl, h2⟩ g3⟩
    · cases e
end
theorem paired_mono {α β : Type} {F G : α → β → Prop} (h : ∀ a b, F a b → G a b) : ∀ {l₁ : List α} {l₂ : List β}, Paired F l₁ l₂ → Paired G l₁ l₂
  | _, _, .nil => .nil
  | _, _, .cons x t => .cons (h _ _ x) (paired_mono h t)
theorem bi_dict (hc : X.calm = true) : CallR X (.type "dict") (rBi X.K biDict) := by
  intro pins s σ H xs us Q I r h
  obtain ⟨F, μ, S, ds, d, m, hr, hb, k⟩ := h
  unfold biDict at hb
  split at hb
  · rename_i ds'
    simp only [Option.map_eq_some_iff] at hb
    obtain ⟨kds, e, rfl⟩ := hb
    obtain ⟨x, rfl, a, vs, rfl, h1, r1⟩ := hr.one
    obtain ⟨ps, kvs, rfl, g2, g3⟩ := pairs_rep r1 e
    have g := kr_merge g3 (Paired.nil (F := KR X.K F))
    exact call_dictP hc pins s σ H _ us Q I r ⟨a, ps, kvs, rfl, .of h1, paired_mono (fun _ _ q => m.sub.sqT q) g2, k.dct m (kr_keys g) (kr_vals g)⟩
  · cases hb
theorem bi_sorted (hcalm : X.calm = true) (hu : X.A.units + 65 < cLine) : CallR X (.builtin "sorted") (rBi X.K biSorted) := by
  intro pins s σ H xs us Q I r h
  obtain ⟨F, μ, S, ds, d, m, hr, hb, k⟩ := h
  unfold biSorted at hb
  split at hb
  · rename_i ks vs0
    simp only [Option.map_eq_some_iff] at hb
    obtain ⟨os, e, rfl⟩ := hb
    obtain ⟨x, rfl, a, kvs, rfl, h1, hks, r1⟩ := hr.one
    unfold sortedD at e
    split at e
    · rename_i hc
      cases e
      obtain ⟨hc, hlen⟩ := hc
      unfold sortOK at hc
      simp only [Bool.and_eq_true, List.all_eq_true, Bool.or_eq_true, decide_eq_true_eq] at hc
      obtain ⟨⟨⟨c1, c2⟩, c3⟩, c4⟩ := hc
      rw [Vals.ref1 r]
      obtain ⟨z, lo, prs, rk, hd⟩ := (show ObjOk X.prog X.w H s.heap a (.dK kvs) from rd_of I.hok h1)
      obtain ⟨ep, hat⟩ := hd.dictAt
      have hl : kvs.length = prs.length := Paired.length rk
      have hkl : (ks.map kD).length = prs.length := by rw [List.length_map, ← hks, List.length_map]; exact hl
      have kk : ∀ (h1 : Heap) (acc : Array Value), PySem.ItemsOf (fun i v => ∃ k x, prs[i]? = some (k, x) ∧ (mixKind X.prog X.w).is k v = true) acc prs.length → PySem.W.EachIs (Std X.K F) acc.toList (ks.map kD) ∧ PySem.W.EachIs (fun v b => ∃ as, Reads h1 v (encD b) as) acc.toList (ks.map kD) := fun h1 acc hacc => by
        have key : ∀ (j : Nat) (u : Value) (d : D), acc.toList[j]? = some u → (ks.map kD)[j]? = some d → ∃ k : L2.Key, d = kD k ∧ keyIs k u = true := fun j u d e1 e2 => by
          obtain ⟨k, y, hky, hi⟩ := hacc.2 j u (by rw [← Array.getElem?_toList]; exact e1)
          have e3 : ks[j]? = some k := by rw [← hks, KV.keys rk, List.getElem?_map, hky]; rfl
          rw [List.getElem?_map, e3] at e2
          exact ⟨k, (Option.some.inj e2).symm, hi⟩
        have hlen2 : acc.toList.length = (ks.map kD).length := by rw [hkl, Array.length_toList]; exact hacc.1
        refine ⟨each_at hlen2 fun j u d e1 e2 => ?_, each_at hlen2 fun j u d e1 e2 => ?_⟩
        · obtain ⟨k, rfl, hi⟩ := key j u d e1 e2
          refine ⟨kV k, keyIs_rel hi, ?_⟩
          cases k <;> rfl
        · obtain ⟨k, rfl, hi⟩ := key j u d e1 e2
          have := keyIs_rel hi
          cases k with
          | inl i => obtain ⟨t, e⟩ := (show RelV (V.int i) u from this); subst e; exact ⟨_, .int _ _⟩
          | inr x => obtain ⟨t, e⟩ := (show RelV (V.str x) u from this); subst e; exact ⟨_, .str _ _⟩
      refine sorted_collected (R := Std X.K F) (enc := encD) (bs := ks.map kD) (fun G hG => PySem.W.kdu_collect (A := X.A.in1) (PySem.W.kdl_dict (knd := mixKind X.prog X.w) (kvs := prs) (ep := ep) lo) (I.ok.hd hcalm) hat (by rw [← hl]; exact z) (fun h1 tk acc kp hacc => hG h1 tk acc.toList kp (kk h1 acc hacc).1 (kk h1 acc hacc).2)) ?_ ?_ hlen (fun b hb => ?_) fun hp1 hp2 tk out c kp1 kp2 ho eo he' => ?_
      · intro d hd d' hd'
        obtain ⟨b, hb, rfl⟩ := List.mem_map.mp hd
        obtain ⟨b', hb', rfl⟩ := List.mem_map.mp hd'
        exact c2 b hb b' hb'
      · rcases c3 with c3 | c3
        · left
          intro d hd
          obtain ⟨b, hb, rfl⟩ := List.mem_map.mp hd
          have := c3 b hb
          unfold isTup1 at this
          split at this
          · rename_i x r e; exact ⟨x, r, e⟩
          · cases this
        · right
          intro d hd
          obtain ⟨b, hb, rfl⟩ := List.mem_map.mp hd
          have := c3 b hb
          unfold noTupN at this
          refine ⟨fun e => ?_, fun xs e => ?_⟩ <;> rw [e] at this <;> cases this
      · have := c4 b hb
        omega
      · obtain ⟨ws, q1, q2⟩ := each_to eo
        have I1 : Inv X pins σ H { s with heap := hp1, toks := tk } := I.kept (t' := tk) kp1
        have hn : H hp1.objs.size = none := I1.hok.fresh (Nat.le_refl _)
        have hlw : ws.length ≤ sizeLine := by
          rw [q1.length, ho]; exact hlen
        exact ⟨.ref _, upd H hp1.objs.size (.lst ws), I1.laid (t' := tk) kp2 (Nat.le_refl _) ⟨hlw, out, c, q1, he'⟩, rfl, k.lst m q2 _ hn⟩
    · cases e
  · rename_i ds'
    simp only [Option.map_eq_some_iff] at hb
    obtain ⟨os, e, rfl⟩ := hb
    obtain ⟨x, rfl, a, vs, rfl, h1, r1⟩ := hr.one
    unfold sortedD at e
    split at e
    · rename_i hc
      cases e
      obtain ⟨hc, hlen⟩ := hc
      unfold sortOK at hc
      simp only [Bool.and_eq_true, List.all_eq_true, Bool.or_eq_true, decide_eq_true_eq] at hc
      obtain ⟨⟨⟨c1, c2⟩, c3⟩, c4⟩ := hc
      rw [Vals.ref1 r]
      obtain ⟨its, rv, hl, hz⟩ := I.list (.of h1 : SqL X.K H a vs)
      have ei := each_of (K := X.K) (F := F) r1 rv
      have er : PySem.W.EachIs (fun v b => ∃ as, Reads s.heap v (encD b) as) its ds' := (PySem.W.each_mem ei).mono fun v b ⟨⟨x, q1, q2⟩, hb⟩ => Dp.reads I (encD b) x v (Rep.dp m.sub q2 (encD_of (c1 b hb))) q1
      refine PySem.W.sorted_data (R := Std X.K F) (enc := encD) hl.isList ei er ?_ ?_ hlen (fun b hb => ?_) fun out ho eo => ?_
      · intro d hd d' hd'
        obtain ⟨b, hb, rfl⟩ := List.mem_map.mp hd
        obtain ⟨b', hb', rfl⟩ := List.mem_map.mp hd'
        exact c2 b hb b' hb'
      · rcases c3 with c3 | c3
        · left
          intro d hd
          obtain ⟨b, hb, rfl⟩ := List.mem_map.mp hd
          have := c3 b hb
          unfold isTup1 at this
          split at this
          · rename_i x r e; exact ⟨x, r, e⟩
          · cases this
        · right
          intro d hd
          obtain ⟨b, hb, rfl⟩ := List.mem_map.mp hd
          have := c3 b hb
          unfold noTupN at this
          refine ⟨fun e => ?_, fun xs e => ?_⟩ <;> rw [e] at this <;> cases this
      · have := c4 b hb
        omega
      · obtain ⟨ws, q1, q2⟩ := each_to eo
        obtain ⟨ep, he'⟩ := PyProof.Rows.sortedAll_at s.heap its out.toArray
        have hn : H (s.heap.objs.size + 1) = none := I.hok.fresh (Nat.le_succ _)
        have hlw : ws.length ≤ sizeLine := by
          rw [q1.length, ho]; exact hlen
        exact ⟨.ref _, upd H (s.heap.objs.size + 1) (.lst ws), I.laid (t' := s.toks) (fun _ _ => PyProof.Rows.sortedAll_old) (Nat.le_succ _) ⟨hlw, out, ep, q1, he'⟩, rfl, k.lst m q2 _ hn⟩
    · cases e
  · rename_i ds'
    simp only [Option.map_eq_some_iff] at hb
    obtain ⟨os, e, rfl⟩ := hb
    obtain ⟨x, rfl, a, vs, rfl, h1, r1⟩ := hr.one
    unfold sortedD at e
    split at e
    · rename_i hc
      cases e
      obtain ⟨hc, hlen⟩ := hc
      unfold sortOK at hc
      simp only [Bool.and_eq_true, List.all_eq_true, Bool.or_eq_true, decide_eq_true_eq] at hc
      obtain ⟨⟨⟨c1, c2⟩, c3⟩, c4⟩ := hc
      rw [Vals.ref1 r]
      obtain ⟨its, rv, ⟨ob, hob, hcl, nn, hdt⟩, hz⟩ := I.tuple (m.sub.sqT h1)
      have ei := each_of (K := X.K) (F := F) r1 rv
      have er : PySem.W.EachIs (fun v b => ∃ as, Reads s.heap v (encD b) as) its ds' := (PySem.W.each_mem ei).mono fun v b ⟨⟨x, q1, q2⟩, hb⟩ => Dp.reads I (encD b) x v (Rep.dp m.sub q2 (encD_of (c1 b hb))) q1
      refine sorted_collected (R := Std X.K F) (enc := encD) (bs := ds') (fun G hG => PySem.wpAny_collect_seq a (.inr rfl) hob hcl hdt (fun h1 kp => by
        have := hG h1 s.toks its kp ei (er.mono fun _ _ ⟨as, r⟩ => ⟨as, PyProof.Rows.Reads.keeps kp r⟩)
        simpa using this) (by simp; rw [ei.length]; exact hlen)) ?_ ?_ hlen (fun b hb => ?_) fun hp1 hp2 tk out c kp1 kp2 ho eo he' => ?_
      · intro d hd d' hd'
        obtain ⟨b, hb, rfl⟩ := List.mem_map.mp hd
        obtain ⟨b', hb', rfl⟩ := List.mem_map.mp hd'
        exact c2 b hb b' hb'
      · rcases c3 with c3 | c3
        · left
          intro d hd
          obtain ⟨b, hb, rfl⟩ := List.mem_map.mp hd
          have := c3 b hb
          unfold isTup1 at this
          split at this
          · rename_i x r e; exact ⟨x, r, e⟩
          · cases this
        · right
          intro d hd
          obtain ⟨b, hb, rfl⟩ := List.mem_map.mp hd
          have := c3 b hb
          unfold noTupN at this
          refine ⟨fun e => ?_, fun xs e => ?_⟩ <;> rw [e] at this <;> cases this
      · have := c4 b hb
        omega
      · obtain ⟨ws, q1, q2⟩ := each_to eo
        have I1 : Inv X pins σ H { s with heap := hp1, toks := tk } := I.kept (t' := tk) kp1
        have hn : H hp1.objs.size = none := I1.hok.fresh (Nat.le_refl _)
        have hlw : ws.length ≤ sizeLine := by
          rw [q1.length, ho]; exact hlen
        exact ⟨.ref _, upd H hp1.objs.size (.lst ws), I1.laid (t' := tk) kp2 (Nat.le_refl _) ⟨hlw, out, c, q1, he'⟩, rfl, k.lst m q2 _ hn⟩
    · cases e
  · cases hb

/-! ### isinstance -/
def rIsiD (K : PySem.W.Frag) (T : Ty) : V → Hp → VK → Prop := fun x H Q => ∃ F μ S d r, Mh K H S F μ ∧ RepH K F H d x ∧ isiD d T = some r ∧ Q (.bl r) H
theorem tyx_of {K : PySem.W.Frag} {F H : Hp} {μ : Fp} {S : Store} {d : D} {x : V} (m : Mh K H S F μ) (r : RepH K F H d x) :
    match d with
    | .non => TyX K H x (.type "NoneType") | .bl _ => TyX K H x (.type "bool") | .int _ => TyX K H x (.type "int") | .str _ => TyX K H x (.type "str")
    | .tup _ => TyX K H x (.type "tuple") | .lst _ => TyX K H x (.type "list") | _ => True := by
  cases d with
  | non => cases (show x = .non from r); exact .base .non
  | bl b => cases (show x = .bl b from r); exact .base (.bl b)
  | int b => cases (show x = .int b from r); exact .base (.int b)
  | str b => cases (show x = .str b from r); exact .base (.str b)
  | tup ds =>
    obtain ⟨a, vs, rfl, h, _⟩ := r
    rcases m.sub.sqT h with (h | ⟨o, h⟩) | ⟨o, its, n, h1, h2, _⟩
    · exact .base (.tup h)
    · exact .fTuple h
    · exact .kTuple h1 h2
  | lst ds =>
    obtain ⟨a, vs, rfl, h, _⟩ := r
    exact .base (.lst h)
  | scr _ => trivial
  | fn _ => trivial
  | dct _ _ => trivial
theorem isi_ok {T : Ty} {pins : List (Addr × Obj)} {s : Shared} {σ : L2.St} {H : Hp} {x : V} {v : Value} {Q : VK} (I : Inv X pins σ H s) (rx : RelV x v) (h : rIsiD X.K T x H Q) :
    wpAny (model X.prog X.w) X.A (call (.builtin "isinstance") [v, .type T.name]) (EP X pins σ Q) X.xe s := by
  obtain ⟨F, μ, S, d, r, m, hd, hb, q⟩ := h
  have ty := tyx_of m hd
  have fin : ∀ {t0 : String}, TyX X.K H x (.type t0) → kitB t0 T.name = some r → wpAny (model X.prog X.w) X.A (call (.builtin "isinstance") [v, .type T.name]) (EP X pins σ Q) X.xe s := fun {t0} h1 h2 =>
    call_isi pins s σ H [x, .ty T.name] [v, .type T.name] Q I (.cons rx (.cons rfl .nil)) ⟨x, .ty T.name, .type t0, .type T.name, r, rfl, .ty T.name, h1, kit_ty h2, q⟩
  cases T
  all_goals
    cases d with
    | scr _ => cases hb
    | fn _ => cases hb
    | dct _ _ => cases hb
    | _ => exact fin ty (by cases hb; decide +kernel)
end
end DV

set_option Elab.async false
set_option linter.all false
set_option maxRecDepth 100000
set_option maxHeartbeats 4000000
/-! DV5: from the text's expressions to the intermediate form. -/
namespace DV
open PySem PySem.Spec PyProof.Rows L2

structure CI where
  N : List Str
  defs : List (Str × (Nat × Bool))
  bis : List Str
  consts : List (Str × D)
  gcds : List Str := []
def ixOf : List Str → Str → Option Nat
  | [], _ => none
  | y :: N, x => if y = x then some 0 else (ixOf N x).map (· + 1)
theorem ixOf_get : ∀ {N : List Str} {x : Str} {i : Nat}, ixOf N x = some i → N[i]? = some x
  | [], _, _, h => by cases h
  | y :: N, x, i, h => by
    unfold ixOf at h
    split at h
    · rename_i e; cases h; simp [e]
    · simp only [Option.map_eq_some_iff] at h
      obtain ⟨j, h1, rfl⟩ := h
      simpa using ixOf_get h1
def optAll {α β : Type} (f : α → Option β) : List α → Option (List β)
  | [] => some []
  | a :: as => match f a with
    | some b => (optAll f as).map (b :: ·)
    | none => none
def isGlob (sc : Scope) (x : Str) : Bool := decide (sc.names.lookup x = some .globalImplicit) && decide ((x == ("__debug__" : Str)) = false)
def CI.nm (ci : CI) (sc : Scope) (x : Str) : Option DE :=
  if (x == ("__debug__" : Str)) = true ∨ (x == ("__classdict__" : Str)) = true then none
  else match sc.names.lookup x with
    | some .local => (ixOf ci.N x).map .var
    | some .cell => (ixOf ci.N x).map .var
    | some .free => (ixOf ci.N x).map .var
    | some .globalImplicit => (ci.consts.lookup x).map .con
    | _ => none
def bools (op : BoolOp) : List DE → Option DE
  | [] => none
  | [a] => some a
  | a :: b :: r => (bools op (b :: r)).map fun t => match op with
    | .And => .and a t
    | .Or => .or a t
/-- targets; st: which of the cells may be stored -/
def compT (ci : CI) (st : Str → Bool) : Nat → Scope → Expr → Option DT
  | 0, _, _ => none
  | n + 1, sc, .Name x _ => if sc.names.lookup x = some .local ∨ (sc.names.lookup x = some .cell ∧ st x = true) then (ixOf ci.N x).map .name else none
  | n + 1, sc, .Tuple es _ _ => (optAll (compT ci st n sc) es).map .tup
  | _ + 1, _, _ => none
/-- the own names of a comprehension's block, with their places -/
def ownOf (N : List Str) (scope : Scope) : List (Str × Nat) :=
  scope.names.filterMap fun y => match y.2 with
    | .local => (ixOf N y.1).map fun i => (y.1, i)
    | .cell => (ixOf N y.1).map fun i => (y.1, i)
    | _ => none
def isTup : Expr → Bool
  | .Tuple .. => true
  | _ => false
/-- what is walked: a sequence, or a call of range, zip, enumerate -/
def iterK (ci : CI) (sc : Scope) (tg iter : Expr) : IK × List Expr :=
  match iter with
  | .Call (.Name f _) args [] _ =>
    if isGlob sc f = true ∧ f ∈ ci.bis then
      (if f = "range" ∧ 1 ≤ args.length ∧ args.length ≤ 3 then (.rng, args) else if f = "zip" ∧ isTup tg = true ∧ args.length = 2 then (.zip, args) else if f = "enumerate" ∧ isTup tg = true ∧ args.length = 1 then (.enum, args) else (.seq, [iter]))
    else (.seq, [iter])
  | _ => (.seq, [iter])
/-- x.values(), x a name -/
def valsOf (ci : CI) (sc : Scope) : Expr → Option Nat
  | .Call (.Attribute (.Name x _) nm apos) [] [] cpos => if nm = "values" ∧ (apos.endLine == cpos.line) = true then (match ci.nm sc x with
    | some (.var i) => some i
    | _ => none) else none
  | _ => none
/-- set(e) -/
def setArg (ci : CI) (sc : Scope) (f : Str) : List Expr → Option Expr
  | [.Call (.Name g _) [e] [] _] => if f = "sorted" ∧ g = "set" ∧ isGlob sc g = true ∧ g ∈ ci.bis then some e else none
  | _ => none
def isNameE : Expr → Bool
  | .Name .. => true
  | _ => false
/-- list(range(..)), tuple(range(..)) -/
def rangeArg (ci : CI) (sc : Scope) (f : Str) : List Expr → Option (Bool × List Expr)
  | [.Call (.Name g _) as [] _] => if (f = "list" ∨ f = "tuple") ∧ g = "range" ∧ isGlob sc g = true ∧ g ∈ ci.bis ∧ (as.length = 1 ∨ as.length = 2) then some (decide (f = "tuple"), as) else none
  | _ => none
def compE (ci : CI) : Nat → Scope → Expr → Option DE
  | 0, _, _ => none
  | n + 1, sc, e => match e with
    | .Name x _ => ci.nm sc x
    | .Constant c _ _ => (match c with
      | .int i => some (.con (.int i))
      | .bool b => some (.con (.bl b))
      | .none => some (.con .non)
      | .str x => some (.con (.str x))
      | _ => none)
    | .BinOp a op b _ => (compE ci n sc a).bind fun a' => (compE ci n sc b).map fun b' => .bin op a' b'
    | .UnaryOp op a _ => (match op with
      | .USub => (compE ci n sc a).map .neg
      | .Not => (compE ci n sc a).map .not
      | _ => none)
    | .Compare a ops cs _ => (match ops, cs with
      | [op], [b] => if behindInMarks op b = true then none else (compE ci n sc a).bind fun a' => (compE ci n sc b).map fun b' => .cmp op a' b'
      | [op, op'], [b, c] => if lastMarks [op, op'] [b, c] = true then none else (compE ci n sc a).bind fun a' => (compE ci n sc b).bind fun b' => (compE ci n sc c).map fun c' => .chain op op' a' b' c'
      | _, _ => none)
    | .BoolOp op vs _ => (optAll (compE ci n sc) vs).bind (bools op)
    | .IfExp c a b _ => (compE ci n sc c).bind fun c' => (compE ci n sc a).bind fun a' => (compE ci n sc b).map fun b' => .ife c' a' b'
    | .Tuple es _ _ => if es.length ≤ 1000 then (optAll (compE ci n sc) es).map .tup else none
    | .List es _ => if es.length ≤ 1000 then (optAll (compE ci n sc) es).map .lst else none
    | .Subscript a i _ => (match i with
      | .Slice lo hi none _ => (compE ci n sc a).bind fun a' => (match lo with
        | none => some none
        | some l => (compE ci n sc l).map some).bind fun lo' => (match hi with
        | none => some none
        | some h => (compE ci n sc h).map some).map fun hi' => .sl a' lo' hi'
      | .Slice none none (some (.UnaryOp .USub (.Constant (.int m) _ _) _)) _ => if m = 1 then (compE ci n sc a).map .rev else none
      | i => (compE ci n sc a).bind fun a' => (compE ci n sc i).map fun i' => .ix a' i')
    | .Dict [] [] _ => some .dnew
    | .Call f args kws cpos => (match f, kws with
      | .Name f _, [] => if isGlob sc f = true then (match ci.defs.lookup f with
          | some (ar, fr) => if args.length = ar then (optAll (compE ci n sc) args).map (.call f fr) else none
          | none => if f ∈ ci.bis then
              (if f = "isinstance" then (match args with
                | [a, .Name T _] => if isGlob sc T = true ∧ T ∈ ci.bis then (tyTab.lookup T).bind fun t => (compE ci n sc a).map fun a' => .isi a' t else none
                | _ => none)
              else match rangeArg ci sc f args with
              | some (tp, as) => (optAll (compE ci n sc) as).map (.lrg tp)
              | none => match setArg ci sc f args with
              | some e => (compE ci n sc e).map fun e' => .bi .sset [e']
              | none => (biTab.lookup f).bind fun b => if args ≠ [] then (optAll (compE ci n sc) args).map (.bi b) else none)
            else if f ∈ ci.gcds ∧ args ≠ [] then (optAll (compE ci n sc) args).map (.bi .gcd) else none) else none
      | .Attribute o nm apos, [] => if nm = "pop" ∧ (apos.endLine == cpos.line) = true ∧ isNameE o = true then (match args with
        | [a] => (compE ci n sc o).bind fun o' => (compE ci n sc a).map fun a' => .pop o' a'
        | _ => none) else if nm = "index" ∧ (apos.endLine == cpos.line) = true ∧ isNameE o = true then (match args with
        | [a] => (compE ci n sc o).bind fun o' => (compE ci n sc a).map fun a' => .idx o' a'
        | _ => none) else if nm = "count" ∧ (apos.endLine == cpos.line) = true ∧ isNameE o = true then (match args with
        | [a] => (compE ci n sc o).bind fun o' => (compE ci n sc a).map fun a' => .cnt o' a'
        | _ => none) else none
      | _, _ => none)
    | .ListComp elt gens scope _ => (match gens with
      | [⟨tg, iter, ifs, 0⟩] =>
        let own := ownOf ci.N scope
        if blkC ci.N sc scope own = true ∧ ifs.length ≤ 1 then
          (compT ci (fun x => decide (scope.names.lookup x = some .cell)) n (relS scope sc) tg).bind fun tg' =>
          if tg'.slots.all (fun i => decide (i ∈ own.map (·.2))) = true then
            match valsOf ci sc iter with
            | some i =>
              (optAll (compE ci n (relS scope sc)) ifs).bind fun ifs' =>
              (compE ci n (relS scope sc) elt).map fun elt' => .lcv elt' tg' i ifs' (own.map (·.2))
            | none =>
            (optAll (compE ci n sc) (iterK ci sc tg iter).2).bind fun args' =>
            (optAll (compE ci n (relS scope sc)) ifs).bind fun ifs' =>
            (compE ci n (relS scope sc) elt).map fun elt' => .lc elt' tg' (iterK ci sc tg iter).1 args' ifs' (own.map (·.2))
          else none
        else none
      | [⟨tg, iter, ifs, 0⟩, ⟨tg1, iter1, ifs1, 0⟩] =>
        let own := ownOf ci.N scope
        if blkC ci.N sc scope own = true ∧ ifs.length ≤ 1 ∧ ifs1.length ≤ 1 then
          (compT ci (fun x => decide (scope.names.lookup x = some .cell)) n (relS scope sc) tg).bind fun tg' =>
          (compT ci (fun x => decide (scope.names.lookup x = some .cell)) n (relS scope sc) tg1).bind fun tg1' =>
          if tg'.slots.all (fun i => decide (i ∈ own.map (·.2))) = true ∧ tg1'.slots.all (fun i => decide (i ∈ own.map (·.2))) = true then
            (optAll (compE ci n sc) (iterK ci sc tg iter).2).bind fun args' =>
            (optAll (compE ci n (relS scope sc)) ifs).bind fun ifs' =>
            (optAll (compE ci n (relS scope sc)) (iterK ci (relS scope sc) tg1 iter1).2).bind fun args1' =>
            (optAll (compE ci n (relS scope sc)) ifs1).bind fun ifs1' =>
            (compE ci n (relS scope sc) elt).map fun elt' => .lc2 elt' tg' (iterK ci sc tg iter).1 args' ifs' tg1' (iterK ci (relS scope sc) tg1 iter1).1 args1' ifs1' (own.map (·.2))
          else none
        else none
      | _ => none)
    | _ => none
end DV

set_option Elab.async false
set_option linter.all false
set_option maxRecDepth 100000
set_option maxHeartbeats 4000000
/-! DV6: the compiled expressions are what the text's expressions compute. -/
namespace DV
open PySem PySem.Spec PyProof.Rows L2

/-- a def's promise: what the evaluation of its call says -/
def spD (K : PySem.W.Frag) (mg : Str → Option Value) (call : CallF) (f : Str) (ar : Nat) (fr : Bool) : Sp := fun vs H Q E =>
  ∃ F μ S ds, ds.length = ar ∧ Mh K H S F μ ∧ RepSs K F μ ds vs ∧ End K mg E μ (if fr then RpF K μ else RpE K μ) F (call f ds S) Q
structure Gd (ci : CI) (call : CallF) (kl : Nat) (st : Str → Bool) (W : WX) (sc : Scope) (X : Cx) : Prop where
  N : X.N = ci.N
  nd : X.N.Nodup
  sc : X.env.scope = sc
  calm : X.calm = true
  fn : ∀ x, st x = true → X.fn x = true
  tk : Takes X W
  room : Room kl X.A
  defs : ∀ f ar fr, ci.defs.lookup f = some (ar, fr) → ∃ a fd ps, X.mg f = some (.ref a) ∧ ps.length = ar ∧ PySem.W.keepIn X.K (.ref a) = true ∧ Binds X.K fd ps [] ∧
    FnOk X.prog X.w X.K X.mg X.base (L2.CX X.prog X.w) kl a fd ps (spD X.K X.mg call f ar fr)
  bis : ∀ b ∈ ci.bis, X.mg b = none
  gcds : ∀ b ∈ ci.gcds, X.mg b = some (.builtin "math.gcd")
  consts : ∀ x d, ci.consts.lookup x = some d → ∃ u v, X.mg x = some u ∧ RelV v u ∧ ∀ F, Rep X.K F d v
section
variable {X : Cx}
theorem PE.imp {e : Expr} {t t' : TE} (h : PE X e t) (k : ∀ σ H Q, t' σ H Q → t σ H Q) : PE X e t' := ⟨fun pins s σ H Q I hw => h.run pins s σ H Q I (k _ _ _ hw)⟩
theorem PT.imp {e : Expr} {t t' : TT} (h : PT X e t) (k : ∀ σ H Q, t' σ H Q → t σ H Q) : PT X e t' := ⟨fun pins s σ H Q I hw => h.run pins s σ H Q I (k _ _ _ hw)⟩
theorem PW.imp {e : Expr} {t t' : TT} (h : PW X e t) (k : ∀ σ H Q, t' σ H Q → t σ H Q) : PW X e t' := ⟨fun wh pins s σ H Q I hw => h.run wh pins s σ H Q I (k _ _ _ hw)⟩
theorem PA.imp {es : List Expr} {t t' : TA} (h : PA X es t) (k : ∀ σ H Q, t' σ H Q → t σ H Q) : PA X es t' := ⟨fun pos pins s σ H Q I hw => h.run pos pins s σ H Q I (k _ _ _ hw)⟩
theorem PI.imp {tg it : Expr} {t t' : TI} (h : PI X tg it t) (k : ∀ σ H Q, t' σ H Q → t σ H Q) : PI X tg it t' := ⟨fun pins s σ H R I hw => h.run pins s σ H R I (k _ _ _ hw)⟩
theorem PG.imp {tg : Expr} {t t' : TG} (h : PG X tg t) (k : ∀ v σ H Q, t' v σ H Q → t v σ H Q) : PG X tg t' := ⟨fun pins s σ H v u Q I r hw => h.run pins s σ H v u Q I r (k _ _ _ _ hw)⟩
end
/-- a reading by an evaluation -/
def rdE (X : Cx) (W : WX) (m : Loc → Store → R Sv) : TE := fun σ H Q => ∃ ρ S F μ, Ml X.K σ ρ F μ ∧ Mh X.K H S F μ ∧ End X.K X.mg (WE W σ) μ (RpE X.K μ) F (m ρ S) Q
def rdF (X : Cx) (W : WX) (m : Loc → Store → R Sv) : TE := fun σ H Q => ∃ ρ S F μ, Ml X.K σ ρ F μ ∧ Mh X.K H S F μ ∧ End X.K X.mg (WE W σ) μ (RpF X.K μ) F (m ρ S) Q
def rd (fr : Bool) (X : Cx) (W : WX) (m : Loc → Store → R Sv) : TE := if fr then rdF X W m else rdE X W m
def rdT (X : Cx) (W : WX) (m : Loc → Store → R Bool) : TT := fun σ H Q => ∃ ρ S F μ, Ml X.K σ ρ F μ ∧ Mh X.K H S F μ ∧ End X.K X.mg (WE W σ) μ RpT F (m ρ S) Q
def rdL (X : Cx) (W : WX) (m : Loc → Store → R (List Sv)) : TA := fun σ H Q => ∃ ρ S F μ, Ml X.K σ ρ F μ ∧ Mh X.K H S F μ ∧ End X.K X.mg (WE W σ) μ (RpL X.K μ) F (m ρ S) Q
def rdO (X : Cx) (W : WX) (m : Loc → Store → R (Option Int)) : TO := fun σ H Q => ∃ ρ S F μ, Ml X.K σ ρ F μ ∧ Mh X.K H S F μ ∧ End X.K X.mg (WE W σ) μ RpO F (m ρ S) Q
theorem rdE_rdF {X : Cx} {W : WX} {m : Loc → Store → R Sv} {σ : L2.St} {H : Hp} {Q : VK} (h : rdE X W m σ H Q) : rdF X W m σ H Q := by
  obtain ⟨ρ, S, F, μ, ml, mh, h⟩ := h
  exact ⟨ρ, S, F, μ, ml, mh, h.freeze⟩
theorem PE.frz {X : Cx} {W : WX} {e : Expr} {m : Loc → Store → R Sv} {fr : Bool} (h : PE X e (rd fr X W m)) : PE X e (rdE X W m) := by
  cases fr with
  | false => exact h
  | true => exact PE.imp h fun σ H Q => rdE_rdF
theorem End.of {K : PySem.W.Frag} {mg : Str → Option Value} {E : XK} {μ : Fp} {α β : Type} {Rp : Hp → Hp → α → β → Prop} {F : Hp} {o : Option α} {S : Store} {Q : β → Hp → Prop} (h : End K mg E μ Rp F (R.of o S) Q) :
    ∃ a, o = some a ∧ ∀ b H' F', Le F F' → Mh K H' S F' μ → Rp F' H' a b → Q b H' := by
  cases o with
  | none => exact (show False from h).elim
  | some a => exact ⟨a, rfl, h⟩
theorem R.of_bind {α β : Type} {o : Option α} {S : Store} {f : α → Option β} : (R.of o S).bind (fun a S => R.of (f a) S) = R.of (o.bind f) S := by
  cases o <;> rfl

section
variable {ci : CI} {call : CallF} {kl : Nat} {st : Str → Bool} {W : WX} {sc : Scope} {X : Cx}
theorem Gd.hu (g : Gd ci call kl st W sc X) : X.A.units + 65 < cLine := by have := g.room.un; omega
theorem isGlob_gl (g : Gd ci call kl st W sc X) {x : Str} (h : isGlob sc x = true) : Gl X x ∧ (x == ("__debug__" : Str)) = false := by
  unfold isGlob at h
  simp only [Bool.and_eq_true, decide_eq_true_eq] at h
  refine ⟨?_, h.2⟩
  show X.env.scope.names.lookup x = _
  rw [g.sc]; exact h.1

theorem snd_name (g : Gd ci call kl st W sc X) {x : Str} {pos : Pos} {e' : DE} (h : ci.nm sc x = some e') : PE X (.Name x pos) (rdE X W (evE call e')) := by
  unfold CI.nm at h
  split at h
  · cases h
  · rename_i hd
    have hd1 : (x == ("__debug__" : Str)) = false := by
      cases q : (x == ("__debug__" : Str)) with
      | false => rfl
      | true => exact absurd (.inl q) hd
    have hd2 : (x == ("__classdict__" : Str)) = false := by
      cases q : (x == ("__classdict__" : Str)) with
      | false => rfl
      | true => exact absurd (.inr q) hd
    have loc : ∀ {i : Nat}, ixOf ci.N x = some i → Vis X.env.scope x → PE X (.Name x pos) (rdE X W (evE call (.var i))) := fun {i} hi hv => by
      refine PE.imp (pe_var (i := i) (by rw [g.N]; exact ixOf_get hi) hv hd1 hd2) fun σ H Q hq => ?_
      obtain ⟨ρ, S, F, μ, ml, mh, h⟩ := hq
      obtain ⟨v, hv, k⟩ := End.of (show End _ _ _ _ _ _ (R.of (lget ρ i) S) Q from h)
      obtain ⟨y, h1, h2⟩ := ml.get hv
      exact ⟨y, h1, k y H F (Le.refl F) mh h2⟩
    split at h
    · rename_i q
      simp only [Option.map_eq_some_iff] at h
      obtain ⟨i, hi, rfl⟩ := h
      exact loc hi (.inl (by rw [g.sc]; exact q))
    · rename_i q
      simp only [Option.map_eq_some_iff] at h
      obtain ⟨i, hi, rfl⟩ := h
      exact loc hi (.inr (.inl (by rw [g.sc]; exact q)))
    · rename_i q
      simp only [Option.map_eq_some_iff] at h
      obtain ⟨i, hi, rfl⟩ := h
      exact loc hi (.inr (.inr (by rw [g.sc]; exact q)))
    · rename_i q
      simp only [Option.map_eq_some_iff] at h
      obtain ⟨d, hd, rfl⟩ := h
      obtain ⟨u, v, h1, h2, h3⟩ := g.consts x d hd
      refine PE.imp (pe_glob (by show X.env.scope.names.lookup x = _; rw [g.sc]; exact q) h1 h2 hd1) fun σ H Q hq => ?_
      obtain ⟨ρ, S, F, μ, ml, mh, h⟩ := hq
      exact (show ∀ b H' F', _ → _ → _ → Q b H' from h) v H F (Le.refl F) mh (h3 F)
    · cases h

/-- two in a row, then an operation -/
theorem rd2 {fr : Bool} {ma mb : Loc → Store → R Sv} {f : Sv → Sv → Store → R Sv} {r : R2} {σ : L2.St} {H : Hp} {Q : VK} (h : rd fr X W (fun ρ S => (ma ρ S).bind fun x S1 => (mb ρ S1).bind fun y S2 => f x y S2) σ H Q)
    (k : ∀ x y S F μ (a b : V) H', Mh X.K H' S F μ → RepS X.K F μ x a → RepS X.K F μ y b → End X.K X.mg (WE W σ) μ (if fr then RpF X.K μ else RpE X.K μ) F (f x y S) Q → r a b H' Q) :
    tOp r (rdE X W ma) (rdE X W mb) σ H Q := by
  have h' : ∃ ρ S F μ, Ml X.K σ ρ F μ ∧ Mh X.K H S F μ ∧ End X.K X.mg (WE W σ) μ (if fr then RpF X.K μ else RpE X.K μ) F ((ma ρ S).bind fun x S1 => (mb ρ S1).bind fun y S2 => f x y S2) Q := by
    cases fr <;> exact h
  obtain ⟨ρ, S, F, μ, ml, mh, h⟩ := h'
  refine ⟨ρ, S, F, μ, ml, mh, h.split fun x S1 a H1 F1 e1 l1 m1 r1 h1 => ?_⟩
  refine ⟨ρ, S1, F1, μ, ml.mono l1, m1, h1.split fun y S2 b H2 F2 e2 l2 m2 r2 h2 => ?_⟩
  exact k x y S2 F2 μ a b H2 m2 (r1.mono l2) r2 h2
theorem rd1 {fr : Bool} {ma : Loc → Store → R Sv} {f : Sv → Store → R Sv} {r : V → Hp → VK → Prop} {σ : L2.St} {H : Hp} {Q : VK} (h : rd fr X W (fun ρ S => (ma ρ S).bind fun x S1 => f x S1) σ H Q)
    (k : ∀ x S F μ (a : V) H', Mh X.K H' S F μ → RepS X.K F μ x a → End X.K X.mg (WE W σ) μ (if fr then RpF X.K μ else RpE X.K μ) F (f x S) Q → r a H' Q) :
    rdE X W ma σ H (fun x H1 => r x H1 Q) := by
  have h' : ∃ ρ S F μ, Ml X.K σ ρ F μ ∧ Mh X.K H S F μ ∧ End X.K X.mg (WE W σ) μ (if fr then RpF X.K μ else RpE X.K μ) F ((ma ρ S).bind fun x S1 => f x S1) Q := by
    cases fr <;> exact h
  obtain ⟨ρ, S, F, μ, ml, mh, h⟩ := h'
  exact ⟨ρ, S, F, μ, ml, mh, h.split fun x S1 a H1 F1 e1 l1 m1 r1 h1 => k x S1 F1 μ a H1 m1 r1 h1⟩
theorem End.k1 {F : Hp} {μ : Fp} {S : Store} {d : D} {Q : VK} {E : XK} {K : PySem.W.Frag} {mg : Str → Option Value} {fr : Bool} (h : End K mg E μ (if fr then RpF K μ else RpE K μ) F (.ok (.p d) S) Q) : K1 K F μ S d Q := by
  cases fr with
  | true => exact h
  | false =>
    have h' : End K mg E μ (RpE K μ) F (.ok (.p d) S) Q := h
    exact h'.freeze
theorem K1.frozen {K : PySem.W.Frag} {F : Hp} {μ : Fp} {S : Store} {d : D} {Q : VK} {E : XK} {mg : Str → Option Value} (h : End K mg E μ (RpE K μ) F (.ok (.p d) S) Q) : K1 K F μ S d Q := h.k1 (fr := false)
theorem snd_bin (g : Gd ci call kl st W sc X) {a b : Expr} {a' b' : DE} {op : Operator} {pos : Pos} (ha : PE X a (rdE X W (evE call a'))) (hb : PE X b (rdE X W (evE call b'))) :
    PE X (.BinOp a op b pos) (rd (frsh (.bin op a' b')) X W (evE call (.bin op a' b'))) := by
  refine PE.imp (pe_op (bin_ok op) ha hb) fun σ H Q hq => rd2 (f := fun x y S2 => match der S2 x, der S2 y with
    | some d, some e => R.of ((binD op d e).map .p) S2
    | _, _ => .bad) hq fun x y S F μ xa yb H' m r1 r2 h => ?_
  cases e1 : der S x with
  | none => rw [e1] at h; exact (show False from h).elim
  | some d =>
    cases e2 : der S y with
    | none => rw [e1, e2] at h; exact (show False from h).elim
    | some e =>
      rw [e1, e2] at h
      dsimp only at h
      cases e3 : binD op d e with
      | none => rw [e3] at h; exact (show False from h).elim
      | some r =>
        rw [e3] at h
        exact ⟨F, μ, S, d, e, r, m, der_rep m r1 e1, der_rep m r2 e2, e3, h.k1⟩
theorem snd_cmp (g : Gd ci call kl st W sc X) {a b : Expr} {a' b' : DE} {op : CmpOp} {pos : Pos} (hm : behindInMarks op b = false) (ha : PE X a (rdE X W (evE call a'))) (hb : PE X b (rdE X W (evE call b'))) :
    PE X (.Compare a [op] [b] pos) (rdE X W (evE call (.cmp op a' b'))) ∧ PT X (.Compare a [op] [b] pos) (rdT X W (evT call (.cmp op a' b'))) := by
  refine ⟨PE.imp (pe_cmpR (cmp_ok g.hu op) ha hb hm) fun σ H Q hq => ?_, PT.imp (pt_cmpR (cmp_ok g.hu op) ha hb hm) fun σ H Q hq => ?_⟩
  · refine rd2 (fr := false) (f := fun x y S2 => match der S2 x, der S2 y with
      | some d, some e => R.of ((cmpD op d e).map fun k => .p (.bl k)) S2
      | _, _ => .bad) hq fun x y S F μ xa yb H' m r1 r2 h => ?_
    cases e1 : der S x with
    | none => rw [e1] at h; exact (show False from h).elim
    | some d =>
      cases e2 : der S y with
      | none => rw [e1, e2] at h; exact (show False from h).elim
      | some e =>
        rw [e1, e2] at h
        dsimp only at h
        cases e3 : cmpD op d e with
        | none => rw [e3] at h; exact (show False from h).elim
        | some r =>
          rw [e3] at h
          exact ⟨F, μ, S, d, e, r, m, der_rep m r1 e1, der_rep m r2 e2, e3, h.k1.bl m⟩
  · obtain ⟨ρ, S, F, μ, ml, mh, h⟩ := hq
    have h : End X.K X.mg (WE W σ) μ RpT F ((evE call a' ρ S).bind fun x S1 => (evE call b' ρ S1).bind fun y S2 => match der S2 x, der S2 y with
      | some d, some e => R.of (cmpD op d e) S2
      | _, _ => .bad) Q := h
    refine ⟨ρ, S, F, μ, ml, mh, h.split fun x S1 xa H1 F1 _ l1 m1 r1 h1 => ?_⟩
    refine ⟨ρ, S1, F1, μ, ml.mono l1, m1, h1.split fun y S2 yb H2 F2 _ l2 m2 r2 h2 => ?_⟩
    cases e1 : der S2 x with
    | none => rw [e1] at h2; exact (show False from h2).elim
    | some d =>
      cases e2 : der S2 y with
      | none => rw [e1, e2] at h2; exact (show False from h2).elim
      | some e =>
        rw [e1, e2] at h2
        obtain ⟨k, e3, h3⟩ := h2.of
        exact ⟨F2, μ, S2, d, e, k, m2, der_rep m2 (r1.mono l2) e1, der_rep m2 r2 e2, e3, k, rfl, h3 k H2 F2 (Le.refl _) m2 rfl⟩
theorem snd_chain (g : Gd ci call kl st W sc X) {a b c : Expr} {a' b' c' : DE} {op op' : CmpOp} {pos : Pos} (hm : lastMarks [op, op'] [b, c] = false) (ha : PE X a (rdE X W (evE call a'))) (hb : PE X b (rdE X W (evE call b'))) (hc : PE X c (rdE X W (evE call c'))) :
    PE X (.Compare a [op, op'] [b, c] pos) (rdE X W (evE call (.chain op op' a' b' c'))) ∧ PT X (.Compare a [op, op'] [b, c] pos) (rdT X W (evT call (.chain op op' a' b' c'))) := by
  refine ⟨PE.imp (pe_chain (cmp_ok g.hu op) (cmp_ok g.hu op') ha hb hc hm) fun σ H Q hq => ?_, PT.imp (pt_chain (cmp_ok g.hu op) (cmp_ok g.hu op') ha hb hc hm) fun σ H Q hq => ?_⟩
  · obtain ⟨ρ, S, F, μ, ml, mh, h⟩ := hq
    have h : End X.K X.mg (WE W σ) μ (RpE X.K μ) F ((evE call a' ρ S).bind fun x S1 => (evE call b' ρ S1).bind fun y S2 => match x, y with
      | .p d, .p e => match cmpD op d e with
        | some true => (evE call c' ρ S2).bind fun z S3 => match z with
          | .p f => R.of ((cmpD op' e f).map fun k => .p (.bl k)) S3
          | _ => .bad
        | some false => .ok (.p (.bl false)) S2
        | none => .bad
      | _, _ => .bad) Q := h
    refine ⟨ρ, S, F, μ, ml, mh, h.split fun x S1 xa H1 F1 _ l1 m1 r1 h1 => ?_⟩
    refine ⟨ρ, S1, F1, μ, ml.mono l1, m1, h1.split fun y S2 yb H2 F2 _ l2 m2 r2 h2 => ?_⟩
    cases x with
    | c _ => exact (show False from h2).elim
    | p d =>
      cases y with
      | c _ => exact (show False from h2).elim
      | p e =>
        have r1 : Rep X.K F1 d xa := r1
        have r2 : Rep X.K F2 e yb := r2
        simp only at h2
        cases e3 : cmpD op d e with
        | none => rw [e3] at h2; exact (show False from h2).elim
        | some k =>
          refine ⟨F2, μ, S2, d, e, k, m2, (r1.mono l2).h m2.sub, r2.h m2.sub, e3, k, rfl, ?_⟩
          rw [e3] at h2
          cases k with
          | false => rw [if_neg (by decide)]; exact h2 _ H2 F2 (Le.refl _) m2 rfl
          | true =>
            rw [if_pos rfl]
            refine ⟨ρ, S2, F2, μ, (ml.mono l1).mono l2, m2, h2.split fun z S3 zc H3 F3 _ l3 m3 r3 h3 => ?_⟩
            cases z with
            | c _ => exact (show False from h3).elim
            | p f =>
              obtain ⟨v, e4, h4⟩ := h3.of
              simp only [Option.map_eq_some_iff] at e4
              obtain ⟨k', e4, rfl⟩ := e4
              exact ⟨F3, μ, S3, e, f, k', m3, (r2.mono l3).h m3.sub, (show Rep X.K F3 f zc from r3).h m3.sub, e4, h4 _ H3 F3 (Le.refl _) m3 rfl⟩
  · obtain ⟨ρ, S, F, μ, ml, mh, h⟩ := hq
    have h : End X.K X.mg (WE W σ) μ RpT F ((evE call a' ρ S).bind fun x S1 => (evE call b' ρ S1).bind fun y S2 => match x, y with
      | .p d, .p e => match cmpD op d e with
        | some true => (evE call c' ρ S2).bind fun z S3 => match z with
          | .p f => R.of (cmpD op' e f) S3
          | _ => .bad
        | some false => .ok false S2
        | none => .bad
      | _, _ => .bad) Q := h
    refine ⟨ρ, S, F, μ, ml, mh, h.split fun x S1 xa H1 F1 _ l1 m1 r1 h1 => ?_⟩
    refine ⟨ρ, S1, F1, μ, ml.mono l1, m1, h1.split fun y S2 yb H2 F2 _ l2 m2 r2 h2 => ?_⟩
    cases x with
    | c _ => exact (show False from h2).elim
    | p d =>
      cases y with
      | c _ => exact (show False from h2).elim
      | p e =>
        have r1 : Rep X.K F1 d xa := r1
        have r2 : Rep X.K F2 e yb := r2
        simp only at h2
        cases e3 : cmpD op d e with
        | none => rw [e3] at h2; exact (show False from h2).elim
        | some k =>
          refine ⟨F2, μ, S2, d, e, k, m2, (r1.mono l2).h m2.sub, r2.h m2.sub, e3, k, rfl, ?_⟩
          rw [e3] at h2
          cases k with
          | false => rw [if_neg (by decide)]; exact ⟨false, rfl, h2 _ H2 F2 (Le.refl _) m2 rfl⟩
          | true =>
            rw [if_pos rfl]
            refine ⟨ρ, S2, F2, μ, (ml.mono l1).mono l2, m2, h2.split fun z S3 zc H3 F3 _ l3 m3 r3 h3 => ?_⟩
            cases z with
            | c _ => exact (show False from h3).elim
            | p f =>
              obtain ⟨k', e4, h4⟩ := h3.of
              exact ⟨F3, μ, S3, e, f, k', m3, (r2.mono l3).h m3.sub, (show Rep X.K F3 f zc from r3).h m3.sub, e4, k', rfl, h4 _ H3 F3 (Le.refl _) m3 rfl⟩
theorem snd_neg (g : Gd ci call kl st W sc X) {a : Expr} {a' : DE} {pos : Pos} (ha : PE X a (rdE X W (evE call a'))) : PE X (.UnaryOp .USub a pos) (rdE X W (evE call (.neg a'))) := by
  refine PE.imp (pe_un un_neg ha) fun σ H Q hq => ?_
  refine rd1 (fr := false) (f := fun x S1 => match x with
    | .p (.int i) => .ok (.p (.int (-i))) S1
    | _ => .bad) hq fun x S F μ xa H' m r1 h => ?_
  simp only [Bool.false_eq_true, if_false] at h
  split at h
  · rename_i i
    cases (show xa = .int i from r1)
    exact ⟨i, rfl, (K1.frozen h).int m⟩
  · exact (show False from h).elim
theorem snd_notV (g : Gd ci call kl st W sc X) {a : Expr} {a' : DE} {pos : Pos} (ha : PE X a (rdE X W (evE call a'))) : PE X (.UnaryOp .Not a pos) (rdE X W (evE call (.not a'))) := by
  refine PE.imp (pe_not ha) fun σ H Q hq => ?_
  refine rd1 (fr := false) (r := fun x H1 Q => ∃ c, x = .bl c ∧ Q (.bl (!c)) H1) (f := fun x S1 => match x with
    | .p (.bl k) => .ok (.p (.bl (!k))) S1
    | _ => .bad) hq fun x S F μ xa H' m r1 h => ?_
  simp only [Bool.false_eq_true, if_false] at h
  split at h
  · rename_i i
    cases (show xa = .bl i from r1)
    exact ⟨i, rfl, (K1.frozen h).bl m⟩
  · exact (show False from h).elim
theorem snd_notT (g : Gd ci call kl st W sc X) {a : Expr} {a' : DE} {pos : Pos} (ha : PT X a (rdT X W (evT call a'))) : PT X (.UnaryOp .Not a pos) (rdT X W (evT call (.not a'))) := by
  refine PT.imp (pt_not ha) fun σ H Q hq => ?_
  obtain ⟨ρ, S, F, μ, ml, mh, h⟩ := hq
  have h : End X.K X.mg (WE W σ) μ RpT F ((evT call a' ρ S).bind fun k S1 => .ok (!k) S1) Q := h
  refine ⟨ρ, S, F, μ, ml, mh, h.split fun x S1 xa H1 F1 _ l1 m1 r1 h1 => ?_⟩
  cases (show x = xa from r1)
  exact h1 _ H1 F1 (Le.refl _) m1 rfl
theorem snd_ife (g : Gd ci call kl st W sc X) {c a b : Expr} {c' a' b' : DE} {pos : Pos} (hc : PT X c (rdT X W (evT call c'))) (ha : PE X a (rdE X W (evE call a'))) (hb : PE X b (rdE X W (evE call b'))) :
    PE X (.IfExp c a b pos) (rdE X W (evE call (.ife c' a' b'))) := by
  refine PE.imp (pe_ifExp hc ha hb) fun σ H Q hq => ?_
  obtain ⟨ρ, S, F, μ, ml, mh, h⟩ := hq
  have h : End X.K X.mg (WE W σ) μ (RpE X.K μ) F ((evT call c' ρ S).bind fun k S1 => if k = true then evE call a' ρ S1 else evE call b' ρ S1) Q := h
  refine ⟨ρ, S, F, μ, ml, mh, h.split fun x S1 xa H1 F1 _ l1 m1 r1 h1 => ?_⟩
  cases (show x = xa from r1)
  cases x with
  | true => exact ⟨ρ, S1, F1, μ, ml.mono l1, m1, h1⟩
  | false => exact ⟨ρ, S1, F1, μ, ml.mono l1, m1, h1⟩
theorem pt_ifExp {c a b : Expr} {pos : Pos} {tA tB tC : TT} (hc : PT X c tC) (ha : PT X a tA) (hb : PT X b tB) : PT X (.IfExp c a b pos) (fun σ H Q => tC σ H fun k H1 => if k = true then tA σ H1 Q else tB σ H1 Q) := by
  refine ⟨fun pins s σ H Q I h => ?_⟩
  rw [show isTrue (.IfExp c a b pos) X.env (eval (.IfExp c a b pos) X.env) = (do if ← isTrue c X.env (eval c X.env) then isTrue a X.env (eval a X.env) else isTrue b X.env (eval b X.env)) from rfl]
  refine wpAny_bind (wpAny_mono (hc.run pins s σ H _ I h) (fun k s1 ⟨H1, I1, q1⟩ => ?_) fun _ _ e => e)
  cases k with
  | true => exact ha.run pins s1 σ H1 Q I1 q1
  | false => exact hb.run pins s1 σ H1 Q I1 q1
theorem snd_ifT (g : Gd ci call kl st W sc X) {c a b : Expr} {c' a' b' : DE} {pos : Pos} (hc : PT X c (rdT X W (evT call c'))) (ha : PT X a (rdT X W (evT call a'))) (hb : PT X b (rdT X W (evT call b'))) :
    PT X (.IfExp c a b pos) (rdT X W (evT call (.ife c' a' b'))) := by
  refine PT.imp (pt_ifExp hc ha hb) fun σ H Q hq => ?_
  obtain ⟨ρ, S, F, μ, ml, mh, h⟩ := hq
  have h : End X.K X.mg (WE W σ) μ RpT F ((evT call c' ρ S).bind fun k S1 => if k = true then evT call a' ρ S1 else evT call b' ρ S1) Q := h
  refine ⟨ρ, S, F, μ, ml, mh, h.split fun x S1 xa H1 F1 _ l1 m1 r1 h1 => ?_⟩
  cases (show x = xa from r1)
  cases x with
  | true => exact ⟨ρ, S1, F1, μ, ml.mono l1, m1, h1⟩
  | false => exact ⟨ρ, S1, F1, μ, ml.mono l1, m1, h1⟩
theorem snd_ix (g : Gd ci call kl st W sc X) {a i : Expr} {a' i' : DE} {pos : Pos} (ha : PE X a (rdE X W (evE call a'))) (hi : PE X i (rdE X W (evE call i'))) (hp : PlainIx i) : PE X (.Subscript a i pos) (rdE X W (evE call (.ix a' i'))) := by
  refine PE.imp (pe_ix (ix_ok (by have := g.room.un; omega)) ha hi hp) fun σ H Q hq => rd2 (fr := false) (f := fun x y S2 => match der S2 x, y with
    | some d, .p e => R.of ((ixD d e).map .p) S2
    | _, _ => .bad) hq fun x y S F μ xa yb H' m r1 r2 h => ?_
  cases e1 : der S x with
  | none => rw [e1] at h; exact (show False from h).elim
  | some d =>
    cases y with
    | c _ => rw [e1] at h; exact (show False from h).elim
    | p e =>
      rw [e1] at h
      cases e3 : ixD d e with
      | none => simp only [e3] at h; exact (show False from h).elim
      | some r =>
        simp only [e3] at h
        exact ⟨F, μ, S, d, e, r, m, der_rep m r1 e1, r2, e3, fun b hb => h b H' F (Le.refl _) m hb⟩
theorem snd_slice (g : Gd ci call kl st W sc X) {a : Expr} {lo hi : Option Expr} {a' : DE} {lo' hi' : Option DE} {p2 pos : Pos} (ha : PE X a (rdE X W (evE call a'))) (hl : PO X lo (rdO X W (evO call lo'))) (hh : PO X hi (rdO X W (evO call hi'))) :
    PE X (.Subscript a (.Slice lo hi none p2) pos) (rdF X W (evE call (.sl a' lo' hi'))) := by
  refine PE.imp (pe_slice sl_ok ha hl hh) fun σ H Q hq => ?_
  obtain ⟨ρ, S, F, μ, ml, mh, h⟩ := hq
  have h : End X.K X.mg (WE W σ) μ (RpF X.K μ) F ((evE call a' ρ S).bind fun x S1 => (evO call lo' ρ S1).bind fun l S2 => (evO call hi' ρ S2).bind fun h S3 => match der S3 x with
    | some d => R.of ((slD d l h).map .p) S3
    | none => .bad) Q := h
  refine ⟨ρ, S, F, μ, ml, mh, h.split fun x S1 xa H1 F1 _ l1 m1 r1 h1 => ?_⟩
  refine ⟨ρ, S1, F1, μ, ml.mono l1, m1, h1.split fun y S2 yb H2 F2 _ l2 m2 r2 h2 => ?_⟩
  refine ⟨ρ, S2, F2, μ, (ml.mono l1).mono l2, m2, h2.split fun z S3 zb H3 F3 _ l3 m3 r3 h3 => ?_⟩
  cases (show y = yb from r2)
  cases (show z = zb from r3)
  cases e1 : der S3 x with
  | none => rw [e1] at h3; exact (show False from h3).elim
  | some d =>
    rw [e1] at h3
    cases e3 : slD d y z with
    | none => simp only [e3] at h3; exact (show False from h3).elim
    | some r =>
      simp only [e3] at h3
      exact ⟨F3, μ, S3, d, r, m3, der_rep m3 ((r1.mono l2).mono l3) e1, e3, h3⟩
theorem snd_rev (g : Gd ci call kl st W sc X) {a : Expr} {a' : DE} {k : Nat} {p1 p2 p3 pos : Pos} (ha : PE X a (rdE X W (evE call a'))) : PE X (.Subscript a (.Slice none none (some (.UnaryOp .USub (.Constant (.int 1) k p1) p2)) p3) pos) (rdF X W (evE call (.rev a'))) := by
  refine PE.imp (pe_revA ha) fun σ H Q hq => ?_
  refine rd1 (fr := true) (r := fun x H1 Q => ∃ a xs, x = .ref a ∧ ((SqL X.K H1 a xs ∧ ∀ p, H1 p = none → Q (.ref p) (upd H1 p (.lst xs.reverse))) ∨ (SqT X.K H1 a xs ∧ ∀ p, H1 p = none → Q (.ref p) (upd H1 p (.tup xs.reverse))))) (f := fun x S1 => match der S1 x with
    | some (.lst xs) => .ok (.p (.lst xs.reverse)) S1
    | some (.tup xs) => .ok (.p (.tup xs.reverse)) S1
    | _ => .bad) hq fun x S F μ xa H' m r1 h => ?_
  cases e1 : der S x with
  | none => simp only [e1] at h; exact (show False from h).elim
  | some d =>
    have rh := der_rep m r1 e1
    cases d with
    | lst ds =>
      simp only [e1] at h
      obtain ⟨a, vs, rfl, h1, r⟩ := rh
      exact ⟨a, vs, rfl, .inl ⟨.of h1, (End.k1 (fr := true) h).lst m r.reverse⟩⟩
    | tup ds =>
      simp only [e1] at h
      obtain ⟨a, vs, rfl, h1, r⟩ := rh
      exact ⟨a, vs, rfl, .inr ⟨m.sub.sqT h1, (End.k1 (fr := true) h).tup m r.reverse⟩⟩
    | _ => simp only [e1] at h; exact (show False from h).elim
theorem snd_partS (g : Gd ci call kl st W sc X) {e : Expr} {e' : DE} (h : PE X e (rdE X W (evE call e'))) : PO X (some e) (rdO X W (evO call (some e'))) := by
  have p := po_some h
  refine ⟨fun pins s σ H Q I hq => p.run pins s σ H Q I ?_⟩
  obtain ⟨ρ, S, F, μ, ml, mh, h⟩ := hq
  have h : End X.K X.mg (WE W σ) μ RpO F ((evE call e' ρ S).bind fun v S1 => match v with
    | .p (.int i) => .ok (some i) S1
    | _ => .bad) Q := h
  refine ⟨ρ, S, F, μ, ml, mh, h.split fun x S1 xa H1 F1 _ l1 m1 r1 h1 => ?_⟩
  split at h1
  · rename_i _ i _
    cases (show xa = .int i from r1)
    exact ⟨i, rfl, h1 _ H1 F1 (Le.refl _) m1 rfl⟩
  · exact (show False from h1).elim
theorem snd_partN : PO X none (rdO X W (evO call none)) := by
  refine ⟨fun pins s σ H Q I hq => po_none.run pins s σ H Q I ?_⟩
  obtain ⟨ρ, S, F, μ, ml, mh, h⟩ := hq
  exact h _ H F (Le.refl _) mh rfl

/-! ### lists of expressions -/
/-- each of them, at one time -/
inductive SndL (X : Cx) (W : WX) (call : CallF) : List Expr → List DE → Prop
  | nil : SndL X W call [] []
  | cons {e : Expr} {es : List Expr} {e' : DE} {es' : List DE} (ns : ∀ a p, e ≠ .Starred a p) (h : PE X e (rdE X W (evE call e'))) (t : SndL X W call es es') : SndL X W call (e :: es) (e' :: es')
theorem SndL.star {env : Env} {es : List Expr} {es' : List DE} (h : SndL X W call es es') : starEach es env = es.map fun e => (false, eval e env) := by
  induction h with
  | nil => rfl
  | @cons e es e' es' ns h t ih =>
    rw [List.map_cons, ← ih]
    cases e <;> first | rfl | exact absurd rfl (ns _ _)
theorem SndL.length {es : List Expr} {es' : List DE} (h : SndL X W call es es') : es'.length = es.length := by
  induction h with
  | nil => rfl
  | cons _ _ _ ih => simp [ih]
theorem SndL.pa {es : List Expr} {es' : List DE} (h : SndL X W call es es') : PA X es (rdL X W (evL call es')) := by
  induction h with
  | nil =>
    refine PA.imp pa_nil fun σ H Q hq => ?_
    obtain ⟨ρ, S, F, μ, ml, mh, h⟩ := hq
    exact (show ∀ b H' F', _ → _ → _ → Q b H' from h) [] H F (Le.refl F) mh rfl
  | @cons e es e' es' ns h t ih =>
    refine PA.imp (pa_cons h ih (by rw [(SndL.cons ns h t).star, t.star, List.map_cons])) fun σ H Q hq => ?_
    obtain ⟨ρ, S, F, μ, ml, mh, h⟩ := hq
    have h : End X.K X.mg (WE W σ) μ (RpL X.K μ) F ((evE call e' ρ S).bind fun v S1 => (evL call es' ρ S1).bind fun vs S2 => .ok (v :: vs) S2) Q := h
    refine ⟨ρ, S, F, μ, ml, mh, h.split fun x S1 xa H1 F1 _ l1 m1 r1 h1 => ?_⟩
    refine ⟨ρ, S1, F1, μ, ml.mono l1, m1, h1.split fun y S2 yb H2 F2 _ l2 m2 r2 h2 => ?_⟩
    exact h2 _ H2 F2 (Le.refl _) m2 ⟨xa, yb, rfl, r1.mono l2, r2⟩
theorem SndL.any {env : Env} {es : List Expr} {es' : List DE} {pos : Pos} (h : SndL X W call es es') : (backTo pos (starEach es env)).any (·.1) = false := by
  rw [h.star]
  unfold backTo
  rw [List.any_eq_false]
  intro x hx
  simp only [List.map_map, List.mem_map] at hx
  obtain ⟨e, _, rfl⟩ := hx
  simp
theorem snd_tup (g : Gd ci call kl st W sc X) {es : List Expr} {es' : List DE} {k : Nat} {pos : Pos} (h : SndL X W call es es') (hz : es.length ≤ sizeLine) : PE X (.Tuple es k pos) (rdE X W (evE call (.tup es'))) := by
  refine PE.imp (pe_tup h.pa) fun σ H Q hq => ?_
  obtain ⟨ρ, S, F, μ, ml, mh, hh⟩ := hq
  have hh : End X.K X.mg (WE W σ) μ (RpE X.K μ) F ((evL call es' ρ S).bind fun vs S1 => match pures vs with
    | some ds => .ok (.p (.tup ds)) S1
    | none => .bad) Q := hh
  refine ⟨ρ, S, F, μ, ml, mh, hh.split fun x S1 xa H1 F1 e1 l1 m1 r1 h1 => ?_⟩
  cases e2 : pures x with
  | none => rw [e2] at h1; exact (show False from h1).elim
  | some ds =>
    rw [e2] at h1
    have r2 := r1.pures e2
    refine ⟨?_, h1.k1 (fr := false) |>.tup m1 r2⟩
    have hl : ∀ {es' : List DE} {ρ : Loc} {S : Store} {x : List Sv} {S1 : Store}, evL call es' ρ S = .ok x S1 → x.length = es'.length := by
      intro es'
      induction es' with
      | nil => intro ρ S x S1 e; simp [evL] at e; simp [e.1]
      | cons e es ih =>
        intro ρ S x S1 q
        simp only [evL] at q
        cases h1 : evE call e ρ S with
        | bad => rw [h1] at q; cases q
        | exc _ _ => rw [h1] at q; cases q
        | ok v S2 =>
          rw [h1] at q
          simp only [R.bind_ok] at q
          cases h2 : evL call es ρ S2 with
          | bad => rw [h2] at q; cases q
          | exc _ _ => rw [h2] at q; cases q
          | ok vs S3 =>
            rw [h2] at q
            simp only [R.bind_ok, R.ok.injEq] at q
            rw [← q.1, List.length_cons, ih h2, List.length_cons]
    rw [r1.length, hl e1, h.length]
    exact hz
theorem snd_lst (g : Gd ci call kl st W sc X) {es : List Expr} {es' : List DE} {pos : Pos} (h : SndL X W call es es') (hz : es.length ≤ sizeLine) : PE X (.List es pos) (rdF X W (evE call (.lst es'))) := by
  refine PE.imp (pe_lst h.pa) fun σ H Q hq => ?_
  obtain ⟨ρ, S, F, μ, ml, mh, hh⟩ := hq
  have hh : End X.K X.mg (WE W σ) μ (RpF X.K μ) F ((evL call es' ρ S).bind fun vs S1 => match pures vs with
    | some ds => .ok (.p (.lst ds)) S1
    | none => .bad) Q := hh
  refine ⟨ρ, S, F, μ, ml, mh, hh.split fun x S1 xa H1 F1 e1 l1 m1 r1 h1 => ?_⟩
  cases e2 : pures x with
  | none => rw [e2] at h1; exact (show False from h1).elim
  | some ds =>
    rw [e2] at h1
    have r2 := r1.pures e2
    refine ⟨?_, (End.k1 (fr := true) h1).lst m1 r2⟩
    have hl : ∀ {es' : List DE} {ρ : Loc} {S : Store} {x : List Sv} {S1 : Store}, evL call es' ρ S = .ok x S1 → x.length = es'.length := by
      intro es'
      induction es' with
      | nil => intro ρ S x S1 e; simp [evL] at e; simp [e.1]
      | cons e es ih =>
        intro ρ S x S1 q
        simp only [evL] at q
        cases h1 : evE call e ρ S with
        | bad => rw [h1] at q; cases q
        | exc _ _ => rw [h1] at q; cases q
        | ok v S2 =>
          rw [h1] at q
          simp only [R.bind_ok] at q
          cases h2 : evL call es ρ S2 with
          | bad => rw [h2] at q; cases q
          | exc _ _ => rw [h2] at q; cases q
          | ok vs S3 =>
            rw [h2] at q
            simp only [R.bind_ok, R.ok.injEq] at q
            rw [← q.1, List.length_cons, ih h2, List.length_cons]
    rw [r1.length, hl e1, h.length]
    exact hz

/-! ### calls -/
theorem End.mp {K : PySem.W.Frag} {mg : Str → Option Value} {E : XK} {μ : Fp} {F : Hp} {r : R Sv} {Q : VK} {fr : Bool} (h : End K mg E μ (if fr then RpF K μ else RpE K μ) F r Q) : End K mg E μ (if fr then RpF K μ else RpE K μ) F r Q := h
theorem snd_call (g : Gd ci call kl st W sc X) {f : Str} {ar : Nat} {fr : Bool} {es : List Expr} {es' : List DE} {p pos : Pos} (hg : isGlob sc f = true) (hl : ci.defs.lookup f = some (ar, fr)) (hn : es.length = ar) (h : SndL X W call es es') :
    PE X (.Call (.Name f p) es [] pos) (rd fr X W (evE call (.call f fr es'))) := by
  obtain ⟨a, fd, ps, h1, h2, h3, h4, h5⟩ := g.defs f ar fr hl
  obtain ⟨g1, g2⟩ := isGlob_gl g hg
  cases h with
  | nil =>
    refine ⟨fun pins s σ H Q I hq => ?_⟩
    refine wpAny_Call_Name_kw (ld_glob I g1 h1 ?_ g2)
    refine PySem.W.callWith_K0 I.kIn h3 (run_fnSD (us := []) h5 g.room h4 .nil (passAt g.tk σ) I .nil ?_)
    have hq' : ∃ ρ S F μ, Ml X.K σ ρ F μ ∧ Mh X.K H S F μ ∧ End X.K X.mg (WE W σ) μ (if fr then RpF X.K μ else RpE X.K μ) F (call f [] S) Q := by
      cases fr <;> exact hq
    obtain ⟨ρ, S, F, μ, ml, mh, hh⟩ := hq'
    exact ⟨F, μ, S, [], hn, mh, rfl, hh⟩
  | @cons e es e' es' ns he t =>
    have hL := SndL.cons ns he t
    refine PE.imp (pe_callSD h5 g.room g1 h1 h3 h4 .nil (fun σ => passAt g.tk σ) hL.pa g2 (by rw [hL.star, t.star, List.map_cons]) t.any) fun σ H Q hq => ?_
    have hq' : ∃ ρ S F μ, Ml X.K σ ρ F μ ∧ Mh X.K H S F μ ∧ End X.K X.mg (WE W σ) μ (if fr then RpF X.K μ else RpE X.K μ) F ((evL call (e' :: es') ρ S).bind fun vs S1 => call f vs S1) Q := by
      cases fr <;> exact hq
    obtain ⟨ρ, S, F, μ, ml, mh, hh⟩ := hq'
    refine ⟨ρ, S, F, μ, ml, mh, hh.split fun x S1 xa H1 F1 e1 l1 m1 r1 h1 => ?_⟩
    have hx : ∀ {es' : List DE} {ρ : Loc} {S : Store} {x : List Sv} {S1 : Store}, evL call es' ρ S = .ok x S1 → x.length = es'.length := by
      intro es'
      induction es' with
      | nil => intro ρ S x S1 e; simp [evL] at e; simp [e.1]
      | cons e es ih =>
        intro ρ S x S1 q
        simp only [evL] at q
        cases h1 : evE call e ρ S with
        | bad => rw [h1] at q; cases q
        | exc _ _ => rw [h1] at q; cases q
        | ok v S2 =>
          rw [h1] at q
          simp only [R.bind_ok] at q
          cases h2 : evL call es ρ S2 with
          | bad => rw [h2] at q; cases q
          | exc _ _ => rw [h2] at q; cases q
          | ok vs S3 =>
            rw [h2] at q
            simp only [R.bind_ok, R.ok.injEq] at q
            rw [← q.1, List.length_cons, ih h2, List.length_cons]
    have hlen := hx e1
    exact ⟨F1, μ, S1, x, by rw [hlen, hL.length, hn], m1, by rw [List.append_nil]; exact r1, h1⟩
theorem biTab_boot {f : Str} {b : Bi} (h : biTab.lookup f = some b) (hc : X.calm = true) (hu : X.A.units + 65 < cLine) :
    f ≠ "__name__" ∧ ((∃ id, bootBuiltins f = some (.builtin id) ∧ CallR X (.builtin id) (rBi X.K (biF b))) ∨ ∃ T, bootBuiltins f = some (.type T) ∧ CallR X (.type T) (rBi X.K (biF b))) := by
  have hm := PySem.mem_of_lookup h
  simp only [biTab, List.mem_cons, Prod.mk.injEq, List.not_mem_nil, or_false] at hm
  rcases hm with ⟨rfl, rfl⟩ | ⟨rfl, rfl⟩ | ⟨rfl, rfl⟩ | ⟨rfl, rfl⟩ | ⟨rfl, rfl⟩ | ⟨rfl, rfl⟩ | ⟨rfl, rfl⟩ | ⟨rfl, rfl⟩ | ⟨rfl, rfl⟩ | ⟨rfl, rfl⟩ | ⟨rfl, rfl⟩ | ⟨rfl, rfl⟩ | ⟨rfl, rfl⟩
  · exact ⟨by decide, .inl ⟨_, PySem.boot_len, bi_len⟩⟩
  · exact ⟨by decide, .inl ⟨_, boot_abs, bi_abs⟩⟩
  · exact ⟨by decide, .inl ⟨_, boot_max, bi_max hc⟩⟩
  · exact ⟨by decide, .inl ⟨_, boot_min, bi_min hc⟩⟩
  · exact ⟨by decide, .inl ⟨_, boot_sum, bi_sum hc⟩⟩
  · exact ⟨by decide, .inl ⟨_, boot_any, bi_any hc⟩⟩
  · exact ⟨by decide, .inl ⟨_, boot_all, bi_all hc⟩⟩
  · exact ⟨by decide, .inr ⟨_, PyProof.Rows.boot_int, bi_int⟩⟩
  · exact ⟨by decide, .inr ⟨_, boot_tuple, bi_tuple⟩⟩
  · exact ⟨by decide, .inr ⟨_, boot_list, bi_list⟩⟩
  · exact ⟨by decide, .inl ⟨_, boot_sorted, bi_sorted hc hu⟩⟩
  · exact ⟨by decide, .inr ⟨_, boot_str, bi_str⟩⟩
  · exact ⟨by decide, .inr ⟨_, boot_dict, bi_dict hc⟩⟩
theorem snd_biFin {b : Bi} {es' : List DE} {σ : L2.St} {H : Hp} {Q : VK} (hq : rd (frsh (.bi b es')) X W (evE call (.bi b es')) σ H Q) : tCB (rBi X.K (biF b)) (rdL X W (evL call es')) σ H Q := by
  have hq' : ∃ ρ S F μ, Ml X.K σ ρ F μ ∧ Mh X.K H S F μ ∧ End X.K X.mg (WE W σ) μ (if frsh (.bi b es') then RpF X.K μ else RpE X.K μ) F ((evL call es' ρ S).bind fun vs S1 => match ders S1 vs with
    | some ds => R.of ((biF b ds).map .p) S1
    | none => .bad) Q := by
    unfold rd at hq
    cases hfr : frsh (.bi b es') <;> rw [hfr] at hq <;> exact hq
  obtain ⟨ρ, S, F, μ, ml, mh, hh⟩ := hq'
  refine ⟨ρ, S, F, μ, ml, mh, hh.split fun x S1 xa H1 F1 e1 l1 m1 r1 h1 => ?_⟩
  cases e2 : ders S1 x with
  | none => rw [e2] at h1; exact (show False from h1).elim
  | some ds =>
    rw [e2] at h1
    cases e3 : biF b ds with
    | none => simp only [e3] at h1; exact (show False from h1).elim
    | some r =>
      simp only [e3] at h1
      exact ⟨F1, μ, S1, ds, r, m1, ders_rep m1 r1 e2, e3, End.k1 h1⟩
theorem snd_bi (g : Gd ci call kl st W sc X) {f : Str} {b : Bi} {es : List Expr} {es' : List DE} {p pos : Pos} (hg : isGlob sc f = true) (hb : f ∈ ci.bis) (hl : biTab.lookup f = some b) (hne : es ≠ []) (h : SndL X W call es es') :
    PE X (.Call (.Name f p) es [] pos) (rd (frsh (.bi b es')) X W (evE call (.bi b es'))) := by
  obtain ⟨g1, g2⟩ := isGlob_gl g hg
  obtain ⟨n1, hh⟩ := biTab_boot (X := X) hl g.calm g.hu
  cases h with
  | nil => exact absurd rfl hne
  | @cons e es e' es' ns he t =>
    have hL := SndL.cons ns he t
    rcases hh with ⟨id, b1, b2⟩ | ⟨T, b1, b2⟩
    · exact PE.imp (pe_callB b2 g1 (g.bis f hb) b1 hL.pa n1 g2 (by rw [hL.star, t.star, List.map_cons]) t.any) fun _ _ _ => snd_biFin
    · exact PE.imp (pe_callTy b2 g1 (g.bis f hb) b1 hL.pa n1 g2 (by rw [hL.star, t.star, List.map_cons]) t.any) fun _ _ _ => snd_biFin
/-! sorted(set(..)) of ints -/
theorem mem_insS {x y : Int} : ∀ {l : List Int}, y ∈ insS x l ↔ y = x ∨ y ∈ l
  | [] => by simp [insS]
  | a :: l => by
    unfold insS
    split
    · simp
    · split
      · rename_i h; subst h; simp
      · rw [List.mem_cons, mem_insS, List.mem_cons]
        constructor
        · rintro (h | h | h)
          · exact .inr (.inl h)
          · exact .inl h
          · exact .inr (.inr h)
        · rintro (h | h | h)
          · exact .inr (.inl h)
          · exact .inl h
          · exact .inr (.inr h)
theorem insS_lt {x : Int} : ∀ {l : List Int}, l.Pairwise (· < ·) → (insS x l).Pairwise (· < ·)
  | [], _ => by simp [insS]
  | a :: l, h => by
    obtain ⟨h1, h2⟩ := List.pairwise_cons.mp h
    unfold insS
    split
    · rename_i c
      refine List.pairwise_cons.mpr ⟨fun b hb => ?_, h⟩
      rcases List.mem_cons.mp hb with rfl | hb
      · exact c
      · have := h1 b hb; omega
    · split
      · exact h
      · refine List.pairwise_cons.mpr ⟨fun b hb => ?_, insS_lt h2⟩
        rcases mem_insS.mp hb with rfl | hb
        · omega
        · exact h1 b hb
theorem mem_ssetI {y : Int} : ∀ {l : List Int}, y ∈ ssetI l ↔ y ∈ l
  | [] => by simp [ssetI]
  | a :: l => by
    show y ∈ insS a (ssetI l) ↔ _
    rw [mem_insS, mem_ssetI, List.mem_cons]
theorem ssetI_lt : ∀ l : List Int, (ssetI l).Pairwise (· < ·)
  | [] => List.Pairwise.nil
  | a :: l => insS_lt (ssetI_lt l)
theorem asc_ext : ∀ {l m : List Int}, l.Pairwise (· < ·) → m.Pairwise (· < ·) → (∀ k, k ∈ l ↔ k ∈ m) → l = m
  | [], [], _, _, _ => rfl
  | [], b :: m, _, _, h => by have := (h b).mpr List.mem_cons_self; simp at this
  | a :: l, [], _, _, h => by have := (h a).mp List.mem_cons_self; simp at this
  | a :: l, b :: m, h1, h2, h => by
    obtain ⟨p1, p2⟩ := List.pairwise_cons.mp h1
    obtain ⟨q1, q2⟩ := List.pairwise_cons.mp h2
    have e : a = b := by
      rcases List.mem_cons.mp ((h a).mp List.mem_cons_self) with e | e
      · exact e
      · rcases List.mem_cons.mp ((h b).mpr List.mem_cons_self) with e' | e'
        · exact e'.symm
        · have := p1 b e'
          have := q1 a e
          omega
    subst e
    rw [asc_ext p2 q2 fun k => ?_]
    constructor
    · intro hk
      rcases List.mem_cons.mp ((h k).mp (List.mem_cons_of_mem _ hk)) with e | e
      · subst e; have := p1 k hk; omega
      · exact e
    · intro hk
      rcases List.mem_cons.mp ((h k).mpr (List.mem_cons_of_mem _ hk)) with e | e
      · subst e; have := q1 k hk; omega
      · exact e
theorem snd_sset (g : Gd ci call kl st W sc X) {e : Expr} {e' : DE} {p p2 q2 pos : Pos} (hg1 : isGlob sc "sorted" = true) (hb1 : ("sorted" : Str) ∈ ci.bis) (hg2 : isGlob sc "set" = true) (hb2 : ("set" : Str) ∈ ci.bis) (he : SndL X W call [e] [e']) :
    PE X (.Call (.Name "sorted" p) [.Call (.Name "set" p2) [e] [] q2] [] pos) (rdF X W (evE call (.bi .sset [e']))) := by
  obtain ⟨g1, g2⟩ := isGlob_gl g hg1
  obtain ⟨g3, g4⟩ := isGlob_gl g hg2
  have hst := he.star (env := X.env)
  refine PE.imp (pe_callB (cr_sortedSet g.calm) g1 (g.bis _ hb1) boot_sorted (pa_cons (pe_callTy (cr_setLT g.calm) g3 (g.bis _ hb2) PyProof.Rows.boot_set he.pa (by decide) g4 (by rw [hst]; rfl) rfl) pa_nil rfl) (by decide) g2 rfl rfl) fun σ H Q hq => ?_
  obtain ⟨ρ, S, F, μ, ml, mh, hh⟩ := hq
  have hh : End X.K X.mg (WE W σ) μ (RpF X.K μ) F ((evL call [e'] ρ S).bind fun vs S1 => match ders S1 vs with
    | some ds => R.of ((biF .sset ds).map .p) S1
    | none => .bad) Q := hh
  refine ⟨ρ, S, F, μ, ml, mh, hh.split fun x S1 xa H1 F1 e1 l1 m1 r1 h1 => ?_⟩
  cases e2 : ders S1 x with
  | none => rw [e2] at h1; exact (show False from h1).elim
  | some ds =>
    rw [e2] at h1
    cases e3 : biF .sset ds with
    | none => simp only [e3] at h1; exact (show False from h1).elim
    | some r =>
      simp only [e3] at h1
      have k : K1 X.K F1 μ S1 r Q := fun b H' F' l m rp => h1 b H' F' l m rp
      have hr := ders_rep m1 r1 e2
      have fin : ∀ {a : Addr} {ns : List Int}, r = .lst ((ssetI ns).map .int) → ns.length < 60 → (SqL X.K H1 a (ns.map V.int) ∨ SqT X.K H1 a (ns.map V.int)) → rSetLT X.K X.w [V.ref a] H1 (fun v H2 => rSortedSet X.w [v] H2 Q) := fun {a ns} er few hs =>
        ⟨a, ns, rfl, hs, few, fun p c hp hc => ⟨p, _, c, rfl, upd_same, by omega, fun ns' q hpw hmem hl hq => by
          have en : ns' = ssetI ns := asc_ext hpw (ssetI_lt ns) fun j => by rw [hmem j, decide_eq_true_eq, mem_ssetI]
          subst en; subst er
          exact k.lst (m1.grow hp) (Reps.ofInts _) q hq⟩⟩
      have e4 : biSset ds = some r := e3
      unfold biSset at e4
      split at e4
      · rename_i xs
        simp only [Option.bind_eq_some_iff] at e4
        obtain ⟨ns, hi, e4⟩ := e4
        split at e4
        · rename_i few
          cases e4
          obtain ⟨x, rfl, a, vs, rfl, p1, p2⟩ := hr.one
          have ev := p2.ints hi
          subst ev
          exact fin rfl few (.inl (.of p1))
        · cases e4
      · rename_i xs
        simp only [Option.bind_eq_some_iff] at e4
        obtain ⟨ns, hi, e4⟩ := e4
        split at e4
        · rename_i few
          cases e4
          obtain ⟨x, rfl, a, vs, rfl, p1, p2⟩ := hr.one
          have ev := p2.ints hi
          subst ev
          exact fin rfl few (.inr (m1.sub.sqT p1))
        · cases e4
      · cases e4
theorem bi_gcd : CallR X (.builtin "math.gcd") (rBi X.K biGcd) := by
  intro pins s σ H vs us Q I r h
  obtain ⟨F, μ, S, ds, d, m, rs, e, k⟩ := h
  refine cr_gcd pins s σ H vs us Q I r ?_
  unfold biGcd at e
  split at e
  · rename_i i j
    cases e
    obtain ⟨x, y, rfl, h1, h2⟩ := rs.two
    exact ⟨i, j, by rw [show x = .int i from h1, show y = .int j from h2], k.int m⟩
  · cases e
theorem snd_gcd (g : Gd ci call kl st W sc X) {f : Str} {es : List Expr} {es' : List DE} {p pos : Pos} (hg : isGlob sc f = true) (hb : f ∈ ci.gcds) (hne : es ≠ []) (h : SndL X W call es es') :
    PE X (.Call (.Name f p) es [] pos) (rd (frsh (.bi .gcd es')) X W (evE call (.bi .gcd es'))) := by
  obtain ⟨g1, g2⟩ := isGlob_gl g hg
  cases h with
  | nil => exact absurd rfl hne
  | @cons e es e' es' ns he t =>
    have hL := SndL.cons ns he t
    exact PE.imp (pe_callBfun bi_gcd g1 (g.gcds f hb) hL.pa g2 (by rw [hL.star, t.star, List.map_cons]) t.any) fun _ _ _ => snd_biFin
theorem tyTab_boot {f : Str} {t : Ty} (h : tyTab.lookup f = some t) : f ≠ "__name__" ∧ bootBuiltins f = some (.type t.name) := by
  have hm := PySem.mem_of_lookup h
  simp only [tyTab, List.mem_cons, Prod.mk.injEq, List.not_mem_nil, or_false] at hm
  rcases hm with ⟨rfl, rfl⟩ | ⟨rfl, rfl⟩ | ⟨rfl, rfl⟩ | ⟨rfl, rfl⟩ | ⟨rfl, rfl⟩
  · exact ⟨by decide, PyProof.Rows.boot_int⟩
  · exact ⟨by decide, PyProof.Rows.boot_bool⟩
  · exact ⟨by decide, boot_str⟩
  · exact ⟨by decide, boot_tuple⟩
  · exact ⟨by decide, boot_list⟩
/-- isinstance(e, T), as a value and as a test's -/
theorem snd_isi (g : Gd ci call kl st W sc X) {T : Str} {t : Ty} {a : Expr} {a' : DE} {p q pos : Pos} (hg : isGlob sc "isinstance" = true) (hb : ("isinstance" : Str) ∈ ci.bis) (hgT : isGlob sc T = true) (hbT : T ∈ ci.bis) (ht : tyTab.lookup T = some t)
    (ns : ∀ b p, a ≠ .Starred b p) (ha : PE X a (rdE X W (evE call a'))) : PE X (.Call (.Name "isinstance" p) [a, .Name T q] [] pos) (rdE X W (evE call (.isi a' t))) := by
  obtain ⟨g1, g2⟩ := isGlob_gl g hg
  obtain ⟨g3, g4⟩ := isGlob_gl g hgT
  obtain ⟨n1, b1⟩ := tyTab_boot ht
  have hT : PE X (.Name T q) (tC (.ty t.name)) := pe_bltn g3 (g.bis T hbT) b1 rfl n1 g4
  have sa : starEach [a, .Name T q] X.env = (false, eval a X.env) :: starEach [.Name T q] X.env := by
    cases a <;> first | rfl | exact absurd rfl (ns _ _)
  have pa : PA X [a, .Name T q] (tCons (rdE X W (evE call a')) (tCons (tC (.ty t.name)) tNil)) := pa_cons ha (pa_cons hT pa_nil) sa
  refine ⟨fun pins s σ H Q I hq => ?_⟩
  refine wpAny_Call_Name_kw (ld_blt I g1 (g.bis _ hb) boot_isinstance ?_ (by decide) g2)
  obtain ⟨ρ, S, F, μ, ml, mh, h⟩ := hq
  have h : End X.K X.mg (WE W σ) μ (RpE X.K μ) F ((evE call a' ρ S).bind fun x S1 => match der S1 x with
    | some d => R.of ((isiD d t).map fun k => .p (.bl k)) S1
    | none => .bad) Q := h
  refine PyProof.Rows.callWith_builtin1 (thn (pa.run pos pins s σ H (fun vs H1 => ∃ x, vs = [x, .ty t.name] ∧ rIsiD X.K t x H1 Q) I ?_) fun us s1 ⟨vs, H1, I1, r1, x, ev, q1⟩ => ?_) sa (by rfl)
  · refine ⟨ρ, S, F, μ, ml, mh, h.split fun x S1 xa H1 F1 _ l1 m1 r1 h1 => ?_⟩
    refine ⟨xa, rfl, ?_⟩
    cases e1 : der S1 x with
    | none => rw [e1] at h1; exact (show False from h1).elim
    | some d =>
      rw [e1] at h1
      cases e3 : isiD d t with
      | none => simp only [e3] at h1; exact (show False from h1).elim
      | some r =>
        simp only [e3] at h1
        exact ⟨F1, μ, S1, d, r, m1, der_rep m1 r1 e1, e3, h1 _ H1 F1 (Le.refl _) m1 rfl⟩
  · subst ev
    obtain ⟨u1, u2, rfl, ra, rb⟩ := vals2 r1
    cases (show u2 = .type t.name from rb)
    exact isi_ok I1 ra q1
end
end DV

set_option Elab.async false
set_option linter.all false
set_option maxRecDepth 100000
set_option maxHeartbeats 4000000
/-! DV7: and, or; targets; what is walked; comprehensions; every compiled expression. -/
namespace DV
open PySem PySem.Spec PyProof.Rows L2
section
variable {ci : CI} {call : CallF} {kl : Nat} {st : Str → Bool} {W : WX} {sc : Scope} {X : Cx}

/-! ### and, or -/
inductive SndB (X : Cx) (W : WX) (call : CallF) : List Expr → List DE → Prop
  | nil : SndB X W call [] []
  | cons {e : Expr} {es : List Expr} {e' : DE} {es' : List DE} (h : PE X e (rdE X W (evE call e'))) (k : PT X e (rdT X W (evT call e'))) (t : SndB X W call es es') : SndB X W call (e :: es) (e' :: es')
theorem snd_boolsV {op : BoolOp} {pos : Pos} : ∀ {es : List Expr} {es' : List DE} {e' : DE}, SndB X W call es es' → bools op es' = some e' → PE X (.BoolOp op es pos) (rdE X W (evE call e'))
  | _, _, _, .nil, h => by cases h
  | [e], [a], _, .cons h _ .nil, hb => by
    cases hb
    exact pe_one h
  | e :: e2 :: es, a :: b :: r, _, .cons h _ t, hb => by
    simp only [bools, Option.map_eq_some_iff] at hb
    obtain ⟨t', ht, rfl⟩ := hb
    have ih := snd_boolsV (pos := pos) t ht
    cases op with
    | And =>
      refine PE.imp (pe_and h ih) fun σ H Q hq => ?_
      obtain ⟨ρ, S, F, μ, ml, mh, hh⟩ := hq
      have hh : End X.K X.mg (WE W σ) μ (RpE X.K μ) F ((evE call a ρ S).bind fun x S1 => match x with
        | .p (.bl true) => evE call t' ρ S1
        | .p (.bl false) => .ok (.p (.bl false)) S1
        | _ => .bad) Q := hh
      refine ⟨ρ, S, F, μ, ml, mh, hh.split fun x S1 xa H1 F1 _ l1 m1 r1 h1 => ?_⟩
      split at h1
      · cases (show xa = .bl true from r1)
        exact ⟨true, rfl, by rw [if_pos rfl]; exact ⟨ρ, S1, F1, μ, ml.mono l1, m1, h1⟩⟩
      · cases (show xa = .bl false from r1)
        exact ⟨false, rfl, by rw [if_neg (by decide)]; exact h1 _ H1 F1 (Le.refl _) m1 rfl⟩
      · exact (show False from h1).elim
    | Or =>
      refine PE.imp (pe_or h ih) fun σ H Q hq => ?_
      obtain ⟨ρ, S, F, μ, ml, mh, hh⟩ := hq
      have hh : End X.K X.mg (WE W σ) μ (RpE X.K μ) F ((evE call a ρ S).bind fun x S1 => match x with
        | .p (.bl true) => .ok (.p (.bl true)) S1
        | .p (.bl false) => evE call t' ρ S1
        | _ => .bad) Q := hh
      refine ⟨ρ, S, F, μ, ml, mh, hh.split fun x S1 xa H1 F1 _ l1 m1 r1 h1 => ?_⟩
      split at h1
      · cases (show xa = .bl true from r1)
        exact ⟨true, rfl, by rw [if_pos rfl]; exact h1 _ H1 F1 (Le.refl _) m1 rfl⟩
      · cases (show xa = .bl false from r1)
        exact ⟨false, rfl, by rw [if_neg (by decide)]; exact ⟨ρ, S1, F1, μ, ml.mono l1, m1, h1⟩⟩
      · exact (show False from h1).elim
theorem snd_boolsT {op : BoolOp} {pos : Pos} : ∀ {es : List Expr} {es' : List DE} {e' : DE}, SndB X W call es es' → bools op es' = some e' → PW X (.BoolOp op es pos) (rdT X W (evT call e'))
  | _, _, _, .nil, h => by cases h
  | [e], [a], _, .cons _ k .nil, hb => by
    cases hb
    cases op with
    | And => exact pw_and1 k
    | Or => exact pw_or1 k
  | e :: e2 :: es, a :: b :: r, _, .cons _ k t, hb => by
    simp only [bools, Option.map_eq_some_iff] at hb
    obtain ⟨t', ht, rfl⟩ := hb
    have ih := snd_boolsT (pos := pos) t ht
    cases op with
    | And =>
      refine PW.imp (pw_and k ih) fun σ H Q hq => ?_
      obtain ⟨ρ, S, F, μ, ml, mh, hh⟩ := hq
      have hh : End X.K X.mg (WE W σ) μ RpT F ((evT call a ρ S).bind fun k S1 => if k = true then evT call t' ρ S1 else .ok false S1) Q := hh
      refine ⟨ρ, S, F, μ, ml, mh, hh.split fun x S1 xa H1 F1 _ l1 m1 r1 h1 => ?_⟩
      cases (show x = xa from r1)
      cases x with
      | true => rw [if_pos rfl]; exact ⟨ρ, S1, F1, μ, ml.mono l1, m1, h1⟩
      | false => rw [if_neg (by decide)]; exact h1 _ H1 F1 (Le.refl _) m1 rfl
    | Or =>
      refine PW.imp (pw_or k ih) fun σ H Q hq => ?_
      obtain ⟨ρ, S, F, μ, ml, mh, hh⟩ := hq
      have hh : End X.K X.mg (WE W σ) μ RpT F ((evT call a ρ S).bind fun k S1 => if k = true then .ok true S1 else evT call t' ρ S1) Q := hh
      refine ⟨ρ, S, F, μ, ml, mh, hh.split fun x S1 xa H1 F1 _ l1 m1 r1 h1 => ?_⟩
      cases (show x = xa from r1)
      cases x with
      | true => rw [if_pos rfl]; exact h1 _ H1 F1 (Le.refl _) m1 rfl
      | false => rw [if_neg (by decide)]; exact ⟨ρ, S1, F1, μ, ml.mono l1, m1, h1⟩

/-! ### a value's truth -/
/-- forms whose test is their value's truth -/
def plainT : DE → Bool
  | .var _ => true | .con _ => true | .call .. => true | .bi .. => true | .isi .. => true | .ix .. => true | .bin .. => true
  | _ => false
theorem evT_plain {e : DE} (h : plainT e = true) (ρ : Loc) (S : Store) : evT call e ρ S = (evE call e ρ S).bind fun x S1 => R.of ((der S1 x).bind truD) S1 := by
  cases e <;> first
    | (simp [plainT] at h; done)
    | (simp only [evE, evT]; done)
    | skip
  case con d => rfl
  case bin op a b =>
    simp only [evE, evT]
    cases evE call a ρ S with
    | ok x S1 =>
      simp only [R.bind_ok]
      cases evE call b ρ S1 with
      | ok y S2 =>
        simp only [R.bind_ok]
        cases der S2 x with
        | none => rfl
        | some d =>
          cases der S2 y with
          | none => rfl
          | some e => dsimp only; cases binD op d e <;> rfl
      | exc _ _ => rfl
      | bad => rfl
    | exc _ _ => rfl
    | bad => rfl
  case ix a i =>
    simp only [evE, evT]
    cases evE call a ρ S with
    | ok x S1 =>
      simp only [R.bind_ok]
      cases evE call i ρ S1 with
      | ok y S2 =>
        simp only [R.bind_ok]
        cases der S2 x with
        | none => cases y <;> rfl
        | some d =>
          cases y with
          | c _ => rfl
          | p e => dsimp only; cases ixD d e <;> rfl
      | exc _ _ => rfl
      | bad => rfl
    | exc _ _ => rfl
    | bad => rfl
  case call x fr es =>
    simp only [evE, evT]
    cases evL call es ρ S <;> rfl
  case bi x es =>
    simp only [evE, evT]
    cases evL call es ρ S with
    | ok vs S1 =>
      simp only [R.bind_ok]
      cases ders S1 vs with
      | none => rfl
      | some ds => dsimp only; cases biF x ds <;> rfl
    | exc _ _ => rfl
    | bad => rfl
  case isi a T =>
    simp only [evE, evT]
    cases evE call a ρ S with
    | ok x S1 =>
      simp only [R.bind_ok]
      cases der S1 x with
      | none => rfl
      | some d => dsimp only; cases isiD d T <;> rfl
    | exc _ _ => rfl
    | bad => rfl
theorem snd_truth {e : Expr} {e' : DE} (hp : plainT e' = true) (h : PE X e (rdE X W (evE call e'))) (he : ∀ whole, isTrue e X.env whole = (do let v ← whole; standAt e.pos; holding [v] (truthy v))) : PT X e (rdT X W (evT call e')) := by
  refine PT.imp (pt_truth h he) fun σ H Q hq => ?_
  obtain ⟨ρ, S, F, μ, ml, mh, hh⟩ := hq
  rw [evT_plain hp] at hh
  refine ⟨ρ, S, F, μ, ml, mh, hh.split fun x S1 xa H1 F1 _ l1 m1 r1 h1 => ?_⟩
  obtain ⟨k, e1, h2⟩ := h1.of
  cases e2 : der S1 x with
  | none => rw [e2] at e1; cases e1
  | some d =>
    rw [e2] at e1
    exact ⟨k, tru_of m1 (der_rep m1 r1 e2) e1, h2 k H1 F1 (Le.refl _) m1 rfl⟩

/-! ### targets -/
theorem wipe_get {σ : L2.St} : ∀ {own : List Nat} {j : Nat}, (wipe σ own)[j]? = if j ∈ own then (if j < σ.length then some none else none) else σ[j]?
  | [], j => by simp [L2.wipe]
  | v :: vs, j => by
    unfold L2.wipe
    rw [List.getElem?_set]
    by_cases h : v = j
    · subst h
      simp only [if_true, List.mem_cons, true_or, wipe_length]
    · rw [if_neg h, wipe_get]
      have h' : ¬ j = v := fun e => h e.symm
      simp [List.mem_cons, h']
theorem wipe_set {σ : L2.St} {own : List Nat} {i : Nat} {x : Option V} (h : i ∈ own) : wipe (σ.set i x) own = wipe σ own := by
  apply List.ext_getElem?
  intro j
  rw [wipe_get, wipe_get, List.length_set, List.getElem?_set]
  by_cases hj : j ∈ own
  · simp [hj]
  · have : ¬ i = j := fun e => hj (e ▸ h)
    simp [hj, this]
theorem wipe_wipe {σ : L2.St} {own : List Nat} : wipe (wipe σ own) own = wipe σ own := by
  apply List.ext_getElem?
  intro j
  rw [wipe_get, wipe_get, wipe_length]
  by_cases hj : j ∈ own <;> simp [hj]
def rdG (X : Cx) (t : DT) : TG := fun x σ H Q => ∃ v ρ S F μ ρ', Ml X.K σ ρ F μ ∧ Mh X.K H S F μ ∧ RepS X.K F μ v x ∧ bindT t v ρ = some ρ' ∧
  ∀ σ', Ml X.K σ' ρ' F μ → (∀ own : List Nat, (∀ i ∈ t.slots, i ∈ own) → wipe σ' own = wipe σ own) → Q σ' H
def rdGs (X : Cx) (ts : List DT) : TGs := fun xs σ H Q => ∃ ds ρ S F μ ρ', Ml X.K σ ρ F μ ∧ Mh X.K H S F μ ∧ Reps X.K F ds xs ∧ bindTs ts ds ρ = some ρ' ∧
  ∀ σ', Ml X.K σ' ρ' F μ → (∀ own : List Nat, (∀ i ∈ DT.slotss ts, i ∈ own) → wipe σ' own = wipe σ own) → Q σ' H
theorem compT_star {n : Nat} {a : Expr} {p : Pos} : compT ci st n sc (.Starred a p) = none := by cases n <;> rfl
inductive SndG (X : Cx) : List Expr → List DT → Prop
  | nil : SndG X [] []
  | cons {e : Expr} {es : List Expr} {t : DT} {ts : List DT} (ns : ∀ a p, e ≠ .Starred a p) (h : PG X e (rdG X t)) (r : SndG X es ts) : SndG X (e :: es) (t :: ts)
theorem SndG.each {env : Env} {es : List Expr} {ts : List DT} (h : SndG X es ts) : assignEach es env = es.map fun e => (false, assign e env) := by
  induction h with
  | nil => rfl
  | @cons e es t ts ns h r ih =>
    rw [List.map_cons, ← ih]
    cases e <;> first | rfl | exact absurd rfl (ns _ _)
theorem SndG.length {es : List Expr} {ts : List DT} (h : SndG X es ts) : ts.length = es.length := by
  induction h with
  | nil => rfl
  | cons _ _ _ ih => simp [ih]
theorem SndG.pgs {es : List Expr} {ts : List DT} (h : SndG X es ts) : PGs X es (rdGs X ts) := by
  induction h with
  | nil =>
    refine ⟨fun pins s σ H vs us Q I r hq => pgs_nil.run pins s σ H vs us Q I r ?_⟩
    obtain ⟨ds, ρ, S, F, μ, ρ', ml, mh, rp, hb, k⟩ := hq
    cases ds with
    | cons d ds => simp [bindTs] at hb
    | nil =>
      cases rp
      simp [bindTs] at hb
      subst hb
      exact ⟨rfl, k σ ml fun own _ => rfl⟩
  | @cons e es t ts ns h r ih =>
    have hs : (assignEach (e :: es) X.env).map (·.2) = assign e X.env :: (assignEach es X.env).map (·.2) := by rw [(SndG.cons ns h r).each, r.each]; simp
    refine ⟨fun pins s σ H vs us Q I rr hq => (pgs_cons h ih hs).run pins s σ H vs us Q I rr ?_⟩
    obtain ⟨ds, ρ, S, F, μ, ρ', ml, mh, rp, hb, k⟩ := hq
    cases ds with
    | nil => simp [bindTs] at hb
    | cons d ds =>
      obtain ⟨v, vr, rfl, rp1, rp2⟩ := rp
      simp only [bindTs] at hb
      cases e1 : bindT t (.p d) ρ with
      | none => rw [e1] at hb; cases hb
      | some ρ1 =>
        rw [e1] at hb
        refine ⟨v, vr, rfl, .p d, ρ, S, F, μ, ρ1, ml, mh, rp1, e1, fun σ1 ml1 w1 => ?_⟩
        refine ⟨ds, ρ1, S, F, μ, ρ', ml1, mh, rp2, hb, fun σ2 ml2 w2 => k σ2 ml2 fun own hown => ?_⟩
        rw [w2 own fun i hi => hown i (by simp only [DT.slotss]; exact List.mem_append_right _ hi), w1 own fun i hi => hown i (by simp only [DT.slotss]; exact List.mem_append_left _ hi)]
theorem optAll_cons {α β : Type} {f : α → Option β} {a : α} {as : List α} {bs : List β} (h : optAll f (a :: as) = some bs) : ∃ b r, f a = some b ∧ optAll f as = some r ∧ bs = b :: r := by
  unfold optAll at h
  cases e : f a with
  | none => rw [e] at h; cases h
  | some b =>
    rw [e] at h
    simp only [Option.map_eq_some_iff] at h
    obtain ⟨r, h1, rfl⟩ := h
    exact ⟨b, r, rfl, h1, rfl⟩
theorem snd_T (g : Gd ci call kl st W sc X) : ∀ (n : Nat) {tg : Expr} {t : DT}, compT ci st n sc tg = some t → PG X tg (rdG X t)
  | 0, _, _, h => by cases h
  | n + 1, tg, t, h => by
    cases tg with
    | Name x pos =>
      simp only [compT] at h
      split at h
      · rename_i hx
        simp only [Option.map_eq_some_iff] at h
        obtain ⟨i, hi, rfl⟩ := h
        have hL : L2.Loc X.env.scope x := by
          rcases hx with hx | hx
          · exact .inl (by rw [g.sc]; exact hx)
          · exact .inr (by rw [g.sc]; exact hx.1)
        have hf : X.fn x = true ∨ X.env.scope.names.lookup x = some .local := by
          rcases hx with hx | hx
          · exact .inr (by rw [g.sc]; exact hx)
          · exact .inl (g.fn x hx.2)
        refine PG.imp (pg_name (i := i) g.nd (by rw [g.N]; exact ixOf_get hi) hL hf) fun v σ H Q hq => ?_
        obtain ⟨w, ρ, S, F, μ, ρ', ml, mh, rp, hb, k⟩ := hq
        simp only [bindT, Option.some.injEq] at hb
        subst hb
        exact k _ (ml.set rp) fun own hown => wipe_set (hown i (by simp [DT.slots]))
      · cases h
    | Tuple es k pos =>
      simp only [compT, Option.map_eq_some_iff] at h
      obtain ⟨ts, h1, rfl⟩ := h
      have all : ∀ {es : List Expr} {ts : List DT}, optAll (compT ci st n sc) es = some ts → SndG X es ts := by
        intro es
        induction es with
        | nil => intro ts q; cases q; exact .nil
        | cons e es ih =>
          intro ts q
          obtain ⟨b, r, q1, q2, rfl⟩ := optAll_cons q
          exact .cons (fun a p z => by rw [z, compT_star] at q1; cases q1) (snd_T g n q1) (ih q2)
      have G := all h1
      refine PG.imp (pg_tup (n := es.length) g.calm G.pgs (by rw [G.each]; simp) (by
        rw [G.each, List.findIdx?_eq_none_iff]
        intro x hx
        simp only [List.mem_map] at hx
        obtain ⟨e, _, rfl⟩ := hx
        rfl)) fun v σ H Q hq => ?_
      obtain ⟨w, ρ, S, F, μ, ρ', ml, mh, rp, hb, k⟩ := hq
      simp only [bindT] at hb
      split at hb
      · rename_i ds
        obtain ⟨a, vs, rfl, h2, h3⟩ := rp
        have hlen : ∀ {ts : List DT} {ds : List D} {ρ ρ' : Loc}, bindTs ts ds ρ = some ρ' → ds.length = ts.length := by
          intro ts
          induction ts with
          | nil => intro ds ρ ρ' q; cases ds with
            | nil => rfl
            | cons _ _ => simp [bindTs] at q
          | cons t ts ih => intro ds ρ ρ' q; cases ds with
            | nil => simp [bindTs] at q
            | cons d ds =>
              simp only [bindTs] at q
              split at q
              · simp [ih q]
              · cases q
        exact ⟨a, vs, rfl, mh.sub.sqT h2, by rw [h3.length, hlen hb, G.length], ds, ρ, S, F, μ, ρ', ml, mh, h3, hb, fun σ' ml' w' => k σ' ml' fun own ho => w' own fun i hi => ho i (by simpa [DT.slots] using hi)⟩
      · cases hb
    | _ => simp [compT] at h

/-! ### what is walked -/
def ItIs (K : PySem.W.Frag) (F : Hp) (μ : Fp) (ds : List D) (Wt : Watch) (J : It) : Prop :=
  ∀ (i : Nat) (H' : Hp) (S' : Store) (F' : Hp) (μ' : Fp), Le F F' → μ.pre μ' → Mh K H' S' F' μ' → watched Wt S' = true →
    (∀ d, ds[i]? = some d → J.go i H' ∧ ∀ x H'', J.yld i H' x H'' → ∃ F'', Le F' F'' ∧ Mh K H'' S' F'' μ' ∧ Rep K F'' d x) ∧ (i = ds.length → J.stop i H')
abbrev RpI (K : PySem.W.Frag) (μ : Fp) : Hp → Hp → List D × Watch → It → Prop := fun F _ dw J => ItIs K F μ dw.1 dw.2 J
def evI (call : CallF) (k : IK) (args : List DE) (ρ : Loc) (S : Store) : R (List D × Watch) := (evL call args ρ S).bind fun vs S1 => R.of (itemsOf k vs S1) S1
def rdI (X : Cx) (W : WX) (m : Loc → Store → R (List D × Watch)) : TI := fun σ H R => ∃ ρ S F μ, Ml X.K σ ρ F μ ∧ Mh X.K H S F μ ∧ End X.K X.mg (WE W σ) μ (RpI X.K μ) F (m ρ S) R
theorem PI.or {tg it : Expr} {w w' : TI} (h : PI X tg it w) (h' : PI X tg it w') : PI X tg it (fun σ H R => w σ H R ∨ w' σ H R) :=
  ⟨fun pins s σ H R I hw => hw.elim (h.run pins s σ H R I) (h'.run pins s σ H R I)⟩
/-- a list that is frozen, or a watched cell's, as it stands at a later time -/
theorem watch_cell {K : PySem.W.Frag} {H : Hp} {S S' : Store} {F : Hp} {μ μ' : Fp} {v : Sv} {x : V} {ds : List D} {H' F' : Hp} (m : Mh K H S F μ) (r : RepS K F μ v x) (e : der S v = some (.lst ds)) (l : Le F F') (pr : μ.pre μ') (m' : Mh K H' S' F' μ') (hw : watched (watchOf S v) S' = true) :
    ∃ a vs, x = .ref a ∧ H' a = some (.lst vs) ∧ Reps K F' ds vs := by
  cases v with
  | p d =>
    simp [der] at e; subst e
    obtain ⟨a, vs, rfl, h1, h2⟩ := r
    exact ⟨a, vs, rfl, m'.sub _ _ (l _ _ h1), h2.mono l⟩
  | c i =>
    obtain ⟨a, h1, rfl⟩ := r
    cases q : S[i]? with
    | none => simp [der, q] at e
    | some c =>
      cases c with
      | lst xs =>
        simp [der, q] at e
        subst e
        simp [watchOf, q, watched] at hw
        obtain ⟨vs, q1, q2⟩ := m'.cell i a _ (pr.get h1) hw
        exact ⟨a, vs, rfl, q1, q2⟩
      | dct ks vs => simp [der, q] at e
theorem reps_none {K : PySem.W.Frag} {F : Hp} {ds : List D} {vs : List V} {i : Nat} (r : Reps K F ds vs) (h : i = ds.length) : vs.length ≤ i := by rw [r.length, h]; exact Nat.le_refl _
theorem isIt_lst {K : PySem.W.Frag} {H : Hp} {S : Store} {F : Hp} {μ : Fp} {v : Sv} {a : Addr} {ds : List D} (m : Mh K H S F μ) (r : RepS K F μ v (.ref a)) (e : der S v = some (.lst ds)) : ItIs K F μ ds (watchOf S v) (Itl K a) := by
  intro i H' S' F' μ' l pr m' hw
  obtain ⟨a', vs, e1, h1, h2⟩ := watch_cell m r e l pr m' hw
  cases e1
  refine ⟨fun d hd => ?_, fun hi => ⟨vs, .of h1, reps_none h2 hi⟩⟩
  obtain ⟨x, g1, g2⟩ := h2.get hd
  refine ⟨⟨vs, x, .of h1, g1⟩, fun y H'' hy => ?_⟩
  obtain ⟨rfl, hy⟩ := hy
  have := hy vs (.of h1)
  rw [g1] at this; cases this
  exact ⟨F', Le.refl _, m', g2⟩
theorem isIt_tup {K : PySem.W.Frag} {F : Hp} {μ : Fp} {a : Addr} {ds : List D} {vs : List V} (h : SqT K F a vs) (r : Reps K F ds vs) : ItIs K F μ ds [] (Itt K a) := by
  intro i H' S' F' μ' l pr m' hw
  have h1 := m'.sub.sqT (l.sqT h)
  have h2 := r.mono l
  refine ⟨fun d hd => ?_, fun hi => ⟨vs, h1, reps_none h2 hi⟩⟩
  obtain ⟨x, g1, g2⟩ := h2.get hd
  refine ⟨⟨vs, x, h1, g1⟩, fun y H'' hy => ?_⟩
  obtain ⟨rfl, hy⟩ := hy
  have := hy vs h1
  rw [g1] at this; cases this
  exact ⟨F', Le.refl _, m', g2⟩
theorem rngD_get {lo : Int} {n i : Nat} {d : D} (h : (rngD lo n)[i]? = some d) : i < n ∧ d = .int (lo + i) := by
  unfold rngD at h
  rw [List.getElem?_map] at h
  by_cases hi : i < n
  · rw [List.getElem?_range hi] at h
    simp at h
    exact ⟨hi, h.symm⟩
  · rw [List.getElem?_eq_none (by simpa using hi)] at h; cases h
theorem isIt_rng {K : PySem.W.Frag} {F : Hp} {μ : Fp} {lo : Int} {n : Nat} : ItIs K F μ (rngD lo n) [] (Itr lo n) := by
  intro i H' S' F' μ' l pr m' hw
  refine ⟨fun d hd => ?_, fun hi => ?_⟩
  · obtain ⟨h1, rfl⟩ := rngD_get hd
    refine ⟨h1, fun x H'' hy => ?_⟩
    obtain ⟨rfl, rfl⟩ := hy
    exact ⟨F', Le.refl _, m', rfl⟩
  · show n ≤ i
    rw [hi]; simp [rngD]
theorem rngDown_get {lo : Int} {n i : Nat} {d : D} (h : (rngDown lo n)[i]? = some d) : i < n ∧ d = .int (lo + (i : Nat) * (-1)) := by
  unfold rngDown at h
  rw [List.getElem?_map] at h
  by_cases hi : i < n
  · rw [List.getElem?_range hi] at h
    simp only [Option.map_some, Option.some.injEq] at h
    exact ⟨hi, h.symm⟩
  · rw [List.getElem?_eq_none (by simpa using hi)] at h; cases h
theorem isIt_down {K : PySem.W.Frag} {F : Hp} {μ : Fp} {lo : Int} {n : Nat} : ItIs K F μ (rngDown lo n) [] (Itc lo (-1) n) := by
  intro i H' S' F' μ' l pr m' hw
  refine ⟨fun d hd => ?_, fun hi => ?_⟩
  · obtain ⟨h1, rfl⟩ := rngDown_get hd
    refine ⟨h1, fun x H'' hy => ?_⟩
    obtain ⟨rfl, rfl⟩ := hy
    exact ⟨F', Le.refl _, m', rfl⟩
  · show n ≤ i
    rw [hi]; simp [rngDown]
theorem zipD_get {xs ys : List D} {i : Nat} {d : D} (h : (zipD xs ys)[i]? = some d) : ∃ x y, xs[i]? = some x ∧ ys[i]? = some y ∧ d = .tup [x, y] := by
  unfold zipD at h
  rw [List.getElem?_map] at h
  cases e : (xs.zip ys)[i]? with
  | none => rw [e] at h; cases h
  | some p =>
    rw [e] at h
    simp only [Option.map_some, Option.some.injEq] at h
    obtain ⟨x, y⟩ := p
    obtain ⟨h1, h2⟩ := List.getElem?_zip_eq_some.mp e
    exact ⟨x, y, h1, h2, h.symm⟩
theorem isIt_zipL {K : PySem.W.Frag} {H : Hp} {S : Store} {F : Hp} {μ : Fp} {v w : Sv} {a b : Addr} {ds es : List D} (m : Mh K H S F μ) (r : RepS K F μ v (.ref a)) (e : der S v = some (.lst ds)) (r' : RepS K F μ w (.ref b)) (e' : der S w = some (.lst es)) :
    ItIs K F μ (zipD ds es) (watchOf S v ++ watchOf S w) (Itz K a b) := by
  intro i H' S' F' μ' l pr m' hw
  have hw' : watched (watchOf S v) S' = true ∧ watched (watchOf S w) S' = true := by
    unfold watched at hw ⊢
    rw [List.all_append, Bool.and_eq_true] at hw
    exact hw
  obtain ⟨a', vs, e1, h1, h2⟩ := watch_cell m r e l pr m' hw'.1
  cases e1
  obtain ⟨b', ws, e1, h3, h4⟩ := watch_cell m r' e' l pr m' hw'.2
  cases e1
  refine ⟨fun d hd => ?_, fun hi => ?_⟩
  · obtain ⟨x, y, g1, g2, rfl⟩ := zipD_get hd
    obtain ⟨x', k1, k2⟩ := h2.get g1
    obtain ⟨y', k3, k4⟩ := h4.get g2
    refine ⟨⟨vs, ws, x', y', .of h1, .of h3, k1, k3⟩, fun z H'' hy => ?_⟩
    obtain ⟨T, x1, y1, rfl, hT, rfl, q1, q2⟩ := hy
    have p1 := q1 vs (.of h1)
    have p2 := q2 ws (.of h3)
    rw [k1] at p1; cases p1
    rw [k3] at p2; cases p2
    have hle := Le.upd (o := .tup [x', y']) (m'.noneF hT)
    exact ⟨upd F' T (.tup [x', y']), hle, m'.new hT, T, _, rfl, .of upd_same, Reps.cons (k2.mono hle) (Reps.cons (k4.mono hle) rfl)⟩
  · refine ⟨vs, ws, .of h1, .of h3, ?_⟩
    rw [h2.length, h4.length, hi]
    unfold zipD
    rw [List.length_map, List.length_zip]
    omega
theorem isIt_zipT {K : PySem.W.Frag} {F : Hp} {μ : Fp} {a b : Addr} {ds es : List D} {vs ws : List V} (h : SqT K F a vs) (r : Reps K F ds vs) (h' : SqT K F b ws) (r' : Reps K F es ws) : ItIs K F μ (zipD ds es) [] (RZ.ItzT K a b) := by
  intro i H' S' F' μ' l pr m' hw
  have h1 := m'.sub.sqT (l.sqT h)
  have h2 := r.mono l
  have h3 := m'.sub.sqT (l.sqT h')
  have h4 := r'.mono l
  refine ⟨fun d hd => ?_, fun hi => ?_⟩
  · obtain ⟨x, y, g1, g2, rfl⟩ := zipD_get hd
    obtain ⟨x', k1, k2⟩ := h2.get g1
    obtain ⟨y', k3, k4⟩ := h4.get g2
    refine ⟨⟨vs, ws, x', y', h1, h3, k1, k3⟩, fun z H'' hy => ?_⟩
    obtain ⟨T, x1, y1, rfl, hT, rfl, q1, q2⟩ := hy
    have p1 := q1 vs h1
    have p2 := q2 ws h3
    rw [k1] at p1; cases p1
    rw [k3] at p2; cases p2
    have hle := Le.upd (o := .tup [x', y']) (m'.noneF hT)
    exact ⟨upd F' T (.tup [x', y']), hle, m'.new hT, T, _, rfl, .of upd_same, Reps.cons (k2.mono hle) (Reps.cons (k4.mono hle) rfl)⟩
  · refine ⟨vs, ws, h1, h3, ?_⟩
    rw [h2.length, h4.length, hi]
    unfold zipD
    rw [List.length_map, List.length_zip]
    omega
theorem enumD_get {xs : List D} {i : Nat} {d : D} (h : (enumD xs)[i]? = some d) : ∃ x, xs[i]? = some x ∧ d = .tup [.int (i : Nat), x] := by
  unfold enumD at h
  rw [List.getElem?_map, List.getElem?_zipIdx] at h
  cases e : xs[i]? with
  | none => rw [e] at h; cases h
  | some x =>
    rw [e] at h
    simp only [Option.map_some, Option.some.injEq] at h
    refine ⟨x, rfl, ?_⟩
    rw [← h]
    simp
theorem isIt_enum {K : PySem.W.Frag} {H : Hp} {S : Store} {F : Hp} {μ : Fp} {v : Sv} {a : Addr} {ds : List D} (m : Mh K H S F μ) (r : RepS K F μ v (.ref a)) (e : der S v = some (.lst ds)) : ItIs K F μ (enumD ds) (watchOf S v) (Ite K a) := by
  intro i H' S' F' μ' l pr m' hw
  obtain ⟨a', vs, e1, h1, h2⟩ := watch_cell m r e l pr m' hw
  cases e1
  refine ⟨fun d hd => ?_, fun hi => ?_⟩
  · obtain ⟨x, g1, rfl⟩ := enumD_get hd
    obtain ⟨x', k1, k2⟩ := h2.get g1
    refine ⟨⟨vs, x', .of h1, k1⟩, fun z H'' hy => ?_⟩
    obtain ⟨T, x1, rfl, hT, rfl, q1⟩ := hy
    have p1 := q1 vs (.of h1)
    rw [k1] at p1; cases p1
    have hle := Le.upd (o := .tup [.int (i : Nat), x']) (m'.noneF hT)
    exact ⟨upd F' T (.tup [.int (i : Nat), x']), hle, m'.new hT, T, _, rfl, .of upd_same, Reps.cons rfl (Reps.cons (k2.mono hle) rfl)⟩
  · refine ⟨vs, .of h1, ?_⟩
    rw [h2.length, hi]
    simp [enumD]
end
end DV

set_option Elab.async false
set_option linter.all false
set_option maxRecDepth 100000
set_option maxHeartbeats 4000000
/-! DV8: iterables, comprehensions, every compiled expression. -/
namespace DV
open PySem PySem.Spec PyProof.Rows L2
section
variable {ci : CI} {call : CallF} {kl : Nat} {st : Str → Bool} {W : WX} {sc : Scope} {X : Cx}

theorem evL_length : ∀ {es' : List DE} {ρ : Loc} {S : Store} {x : List Sv} {S1 : Store}, evL call es' ρ S = .ok x S1 → x.length = es'.length := by
  intro es'
  induction es' with
  | nil => intro ρ S x S1 e; simp [evL] at e; simp [e.1]
  | cons e es ih =>
    intro ρ S x S1 q
    simp only [evL] at q
    cases h1 : evE call e ρ S with
    | bad => rw [h1] at q; cases q
    | exc _ _ => rw [h1] at q; cases q
    | ok v S2 =>
      rw [h1] at q
      simp only [R.bind_ok] at q
      cases h2 : evL call es ρ S2 with
      | bad => rw [h2] at q; cases q
      | exc _ _ => rw [h2] at q; cases q
      | ok vs S3 =>
        rw [h2] at q
        simp only [R.bind_ok, R.ok.injEq] at q
        rw [← q.1, List.length_cons, ih h2, List.length_cons]
theorem evL_one {e : DE} {ρ : Loc} {S : Store} : evL call [e] ρ S = (evE call e ρ S).bind fun v S1 => .ok [v] S1 := by
  simp only [evL]
  cases evE call e ρ S <;> rfl
theorem rdI_split {k : IK} {args : List DE} {σ : L2.St} {H : Hp} {Rr : It → Hp → Prop} {Q' : List V → Hp → Prop} (hq : rdI X W (evI call k args) σ H Rr)
    (kk : ∀ vs S μ F H' xs ds Wt, vs.length = args.length → Mh X.K H' S F μ → RepSs X.K F μ vs xs → itemsOf k vs S = some (ds, Wt) → (∀ J H'' F', Le F F' → Mh X.K H'' S F' μ → ItIs X.K F' μ ds Wt J → Rr J H'') → Q' xs H') : rdL X W (evL call args) σ H Q' := by
  obtain ⟨ρ, S, F, μ, ml, mh, hh⟩ := hq
  refine ⟨ρ, S, F, μ, ml, mh, hh.split fun vs S1 xs H1 F1 e1 l1 m1 r1 h1 => ?_⟩
  obtain ⟨⟨ds, Wt⟩, e2, h2⟩ := h1.of
  exact kk vs S1 μ F1 H1 xs ds Wt (evL_length e1) m1 r1 e2 fun J H'' F' l m it => h2 J H'' F' l m it
theorem snd_seq (g : Gd ci call kl st W sc X) {tg iter : Expr} {e' : DE} (h : PE X iter (rdE X W (evE call e'))) : PI X tg iter (rdI X W (evI call .seq [e'])) := by
  refine PI.imp (PI.or (pi_list h) (pi_tup h)) fun σ H Rr hq => ?_
  obtain ⟨ρ, S, F, μ, ml, mh, hh⟩ := hq
  have hh : End X.K X.mg (WE W σ) μ (RpI X.K μ) F ((evL call [e'] ρ S).bind fun vs S1 => R.of (itemsOf .seq vs S1) S1) Rr := hh
  rw [evL_one] at hh
  cases hr : evE call e' ρ S with
  | bad => rw [hr] at hh; exact (show False from hh).elim
  | exc x S1 =>
    rw [hr] at hh
    exact .inl ⟨ρ, S, F, μ, ml, mh, by rw [hr]; exact hh⟩
  | ok v S1 =>
    rw [hr] at hh
    obtain ⟨⟨ds, Wt⟩, e1, h2⟩ := End.of (show End _ _ _ _ _ _ (R.of (itemsOf .seq [v] S1) S1) Rr from hh)
    simp only [itemsOf] at e1
    cases e2 : der S1 v with
    | none => rw [e2] at e1; cases e1
    | some d =>
      rw [e2] at e1
      simp only [Option.bind_some, Option.map_eq_some_iff] at e1
      obtain ⟨xs, e3, e4⟩ := e1
      cases e4
      unfold seqOf at e3
      split at e3
      · cases e3
        refine .inl ⟨ρ, S, F, μ, ml, mh, ?_⟩
        rw [hr]
        intro x H1 F1 l1 m1 r1
        obtain ⟨a, vs, rfl, q1, q2⟩ := der_rep m1 r1 e2
        exact ⟨a, rfl, ⟨vs, .of q1⟩, h2 _ H1 F1 l1 m1 (isIt_lst m1 r1 e2)⟩
      · cases e3
        refine .inr ⟨ρ, S, F, μ, ml, mh, ?_⟩
        rw [hr]
        intro x H1 F1 l1 m1 r1
        obtain ⟨a, vs, rfl, q1, q2⟩ := der_rep m1 r1 e2
        have hw : watchOf S1 v = [] := by
          cases v with
          | p d => rfl
          | c i =>
            simp only [der] at e2
            split at e2 <;> cases e2
        have := isIt_tup (μ := μ) q1 q2
        rw [← hw] at this
        exact ⟨a, rfl, ⟨vs, m1.sub.sqT q1⟩, h2 _ H1 F1 l1 m1 this⟩
      · cases e3
theorem two_of_len {α : Type} {l : List α} (h : l.length = 2) : ∃ a b, l = [a, b] := by
  match l, h with
  | [a, b], _ => exact ⟨a, b, rfl⟩
theorem items_rng1 {v : Sv} {S : Store} {r : List D × Watch} (h : itemsOf .rng [v] S = some r) : ∃ j, v = .p (.int j) ∧ rngOK j ∧ r = (rngD 0 j.toNat, []) := by
  unfold itemsOf at h
  split at h
  · rename_i q _; cases q
  · rename_i j _ q
    cases q
    split at h
    · rename_i hj; cases h; exact ⟨j, rfl, hj, rfl⟩
    · cases h
  all_goals first | (rename_i q _; cases q; done) | (rename_i q; cases q; done) | cases h
theorem items_rng2 {v w : Sv} {S : Store} {r : List D × Watch} (h : itemsOf .rng [v, w] S = some r) : ∃ i j, v = .p (.int i) ∧ w = .p (.int j) ∧ rngOK i ∧ rngOK j ∧ r = (rngD i (j - i).toNat, []) := by
  unfold itemsOf at h
  split at h
  · rename_i q _; cases q
  · rename_i q; cases q
  · rename_i i j _ q
    cases q
    split at h
    · rename_i hj; cases h; exact ⟨i, j, rfl, rfl, hj.1, hj.2, rfl⟩
    · cases h
  all_goals first | (rename_i q _; cases q; done) | (rename_i q; cases q; done) | cases h
theorem items_rng3 {v w u : Sv} {S : Store} {r : List D × Watch} (h : itemsOf .rng [v, w, u] S = some r) : ∃ i j, v = .p (.int i) ∧ w = .p (.int j) ∧ u = .p (.int (-1)) ∧ rngOK i ∧ rngOK j ∧ r = (rngDown i (i - j).toNat, []) := by
  unfold itemsOf at h
  split at h
  · rename_i q _; cases q
  · rename_i q; cases q
  · rename_i q; cases q
  · rename_i i j c _ q
    cases q
    split at h
    · rename_i hj; obtain ⟨h1, h2, rfl⟩ := hj; cases h; exact ⟨i, j, rfl, rfl, rfl, h1, h2, rfl⟩
    · cases h
  all_goals first | (rename_i q _; cases q; done) | (rename_i q; cases q; done) | cases h
theorem snd_iter (g : Gd ci call kl st W sc X) {tg iter : Expr} {args' : List DE} (h : SndL X W call (iterK ci sc tg iter).2 args') : PI X tg iter (rdI X W (evI call (iterK ci sc tg iter).1 args')) := by
  have seq : ∀ {args' : List DE}, SndL X W call [iter] args' → PI X tg iter (rdI X W (evI call .seq args')) := fun {args'} h => by
    cases h with
    | cons ns h t => cases t; exact snd_seq g h
  unfold iterK at h ⊢
  split at h
  · rename_i f p args pos
    split at h
    · rename_i hc
      rw [if_pos hc]
      obtain ⟨g1, g2⟩ := isGlob_gl g hc.1
      have hm := g.bis f hc.2
      split at h
      · rename_i hf
        rw [if_pos hf]
        obtain ⟨rfl, hn1, hn3⟩ := hf
        have hlen := h.length
        match args, h, hn1, hn3 with
        | [], _, h1, _ => simp at h1
        | [a], h, _, _ =>
          refine PI.imp (pi_range1 g1 hm h.pa (by rw [h.star]; rfl)) fun σ H Rr hq => rdI_split hq fun vs S μ F H' xs ds Wt hl m r e k => ?_
          rw [h.length] at hl
          match vs, hl, r, e with
          | [v], _, r, e =>
            obtain ⟨x, _, rfl, r1, rfl⟩ := r
            obtain ⟨j, rfl, hj, e2⟩ := items_rng1 e
            cases e2
            cases (show x = .int j from r1)
            exact ⟨j, rfl, hj.1, hj.2, k _ H' F (Le.refl F) m isIt_rng⟩
        | [a, b], h, _, _ =>
          refine PI.imp (pi_range2 g1 hm h.pa (by rw [h.star]; rfl) (by cases h with | cons _ _ t => rw [t.star]; rfl)) fun σ H Rr hq => rdI_split hq fun vs S μ F H' xs ds Wt hl m r e k => ?_
          rw [h.length] at hl
          match vs, hl, r, e with
          | [v, w], _, r, e =>
            obtain ⟨x, _, rfl, r1, y, _, rfl, r2, rfl⟩ := r
            obtain ⟨i, j, rfl, rfl, hi, hj, e2⟩ := items_rng2 e
            cases e2
            cases (show x = .int i from r1)
            cases (show y = .int j from r2)
            exact ⟨i, j, rfl, ⟨hi.1, hi.2, hj.1, hj.2⟩, k _ H' F (Le.refl F) m isIt_rng⟩
        | [a, b, c], h, _, _ =>
          refine PI.imp (pi_range3 g1 hm h.pa (by rw [h.star]; cases h with | cons _ _ t => rw [t.star]; rfl) (by cases h with | cons _ _ t => exact t.any)) fun σ H Rr hq => rdI_split hq fun vs S μ F H' xs ds Wt hl m r e k => ?_
          rw [h.length] at hl
          match vs, hl, r, e with
          | [v, w, u], _, r, e =>
            obtain ⟨x, _, rfl, r1, y, _, rfl, r2, z, _, rfl, r3, rfl⟩ := r
            obtain ⟨i, j, rfl, rfl, rfl, hi, hj, e2⟩ := items_rng3 e
            cases e2
            cases (show x = .int i from r1)
            cases (show y = .int j from r2)
            cases (show z = .int (-1) from r3)
            exact ⟨i, j, -1, _, rfl, RgC.neg hi.1 hi.2 hj.1 hj.2, k _ H' F (Le.refl F) m isIt_down⟩
        | _ :: _ :: _ :: _ :: _, _, _, h3 => simp at h3
      · split at h
        · rename_i hf0 hf
          rw [if_neg hf0, if_pos hf]
          obtain ⟨rfl, ht, hn⟩ := hf
          cases tg with
          | Tuple elts kk tpos =>
            match args, h, hn with
            | [a, b], h, _ =>
              refine PI.imp (RZ.pi_zipA g1 hm h.pa (by rw [h.star]; cases h with | cons _ _ t => rw [t.star]; rfl) (by cases h with | cons _ _ t => exact t.any)) fun σ H Rr hq => rdI_split hq fun vs S μ F H' xs ds Wt hl m r e k => ?_
              rw [h.length] at hl
              match vs, hl, r, e with
              | [v, w], _, r, e =>
                obtain ⟨x, _, rfl, r1, y, _, rfl, r2, rfl⟩ := r
                simp only [itemsOf] at e
                split at e
                · rename_i xs ys e1 e2
                  cases e
                  obtain ⟨a, us, rfl, p1, p2⟩ := der_rep m r1 e1
                  obtain ⟨b, ws, rfl, p3, p4⟩ := der_rep m r2 e2
                  exact ⟨a, b, us, ws, rfl, .inl ⟨.of p1, .of p3, k _ H' F (Le.refl F) m (isIt_zipL m r1 e1 r2 e2)⟩⟩
                · rename_i xs ys e1 e2
                  cases e
                  obtain ⟨a, us, rfl, p1, p2⟩ := der_rep m r1 e1
                  obtain ⟨b, ws, rfl, p3, p4⟩ := der_rep m r2 e2
                  exact ⟨a, b, us, ws, rfl, .inr ⟨m.sub.sqT p1, m.sub.sqT p3, k _ H' F (Le.refl F) m (isIt_zipT p1 p2 p3 p4)⟩⟩
                · cases e
          | _ => simp [isTup] at ht
        · rename_i hf0 hf1
          split at h
          · rename_i hf
            rw [if_neg hf0, if_neg hf1, if_pos hf]
            obtain ⟨rfl, ht, hn⟩ := hf
            cases tg with
            | Tuple elts kk tpos =>
              match args, h, hn with
              | [a], h, _ =>
                refine PI.imp (pi_enum g1 hm h.pa (by rw [h.star]; rfl)) fun σ H Rr hq => rdI_split hq fun vs S μ F H' xs ds Wt hl m r e k => ?_
                rw [h.length] at hl
                match vs, hl, r, e with
                | [v], _, r, e =>
                  obtain ⟨x, _, rfl, r1, rfl⟩ := r
                  simp only [itemsOf] at e
                  split at e
                  · rename_i xs e1
                    cases e
                    obtain ⟨a, us, rfl, p1, p2⟩ := der_rep m r1 e1
                    exact ⟨a, us, rfl, .of p1, k _ H' F (Le.refl F) m (isIt_enum m r1 e1)⟩
                  · cases e
            | _ => simp [isTup] at ht
          · rename_i hf
            rw [if_neg hf0, if_neg hf1, if_neg hf]
            exact seq h
    · rename_i hc
      rw [if_neg hc]
      exact seq h
  · exact seq h

end
end DV

set_option Elab.async false
set_option linter.all false
set_option maxRecDepth 100000
set_option maxHeartbeats 4000000
/-! DV9: comprehensions, and every compiled expression. -/
namespace DV
open PySem PySem.Spec PyProof.Rows L2
section
variable {ci : CI} {call : CallF} {kl : Nat} {st : Str → Bool} {W : WX} {sc : Scope} {X : Cx}

theorem Gd.blk (g : Gd ci call kl st W sc X) (s : Shared) (H : Hp) (scope : Scope) (C : Addr) (cl : List (Str × Addr)) (fp : List Addr) :
    Gd ci call kl (fun x => decide (scope.names.lookup x = some .cell)) (fun _ _ _ _ => False) (relS scope sc) (X.blk s H scope (compEnvC scope cl C X.env) fp) where
  N := g.N
  nd := g.nd
  sc := by
    have e : (compEnvC scope cl C X.env).scope = relS scope X.env.scope := rfl
    show (compEnvC scope cl C X.env).scope = _
    rw [e, g.sc]
  calm := g.calm
  fn := fun x h => by
    show (scope.names.lookup x == some .cell) = true
    simpa using h
  tk := takes0
  room := g.room
  defs := g.defs
  bis := g.bis
  gcds := g.gcds
  consts := g.consts
theorem snd_ptsN : PTs X [] (rdT X W (evTs call [])) := by
  refine ⟨fun pins s σ H Q I hq => pts_nil.run pins s σ H Q I ?_⟩
  obtain ⟨ρ, S, F, μ, ml, mh, h⟩ := hq
  exact h true H F (Le.refl _) mh rfl
theorem snd_pts1 {c : Expr} {c' : DE} (h : PT X c (rdT X W (evT call c'))) : PTs X [c] (rdT X W (evTs call [c'])) := by
  refine ⟨fun pins s σ H Q I hq => (pts_one h).run pins s σ H Q I ?_⟩
  obtain ⟨ρ, S, F, μ, ml, mh, h⟩ := hq
  have h : End X.K X.mg (WE W σ) μ RpT F ((evT call c' ρ S).bind fun k S1 => if k = true then evTs call [] ρ S1 else .ok false S1) Q := h
  refine ⟨ρ, S, F, μ, ml, mh, h.split fun a S' b H' F' e l m rp k => ?_⟩
  cases (show a = b from rp)
  cases a with
  | true => exact k true H' F' (Le.refl _) m rfl
  | false => exact k false H' F' (Le.refl _) m rfl

/-! ### list comprehensions -/
/-- a turn -/
def lcTurn (call : CallF) (elt : DE) (tg : DT) (ifs : List DE) (own : List Nat) (ρ : Loc) (d : D) (S : Store) : R (Option D) :=
  match bindT tg (.p d) (wipeρ ρ own) with
  | none => .bad
  | some ρ' => (evTs call ifs ρ' S).bind fun t S1 => if t = true then (evE call elt ρ' S1).bind fun y S2 => (match y with
      | .p y => .ok (some y) S2
      | .c _ => .bad)
    else .ok none S1
theorem evE_lc {elt : DE} {tg : DT} {k : IK} {args ifs : List DE} {own : List Nat} {ρ : Loc} {S : Store} : evE call (.lc elt tg k args ifs own) ρ S =
    (evI call k args ρ S).bind fun dw S1 => (lcL (lcTurn call elt tg ifs own ρ) dw.2 dw.1 S1).bind fun r S2 => if r.length ≤ sizeLine then .ok (.p (.lst r)) S2 else .bad := by
  simp only [evE, evI]
  cases evL call args ρ S with
  | bad => rfl
  | exc _ _ => rfl
  | ok vs S1 =>
    simp only [R.bind_ok]
    cases itemsOf k vs S1 with
    | none => rfl
    | some dw => obtain ⟨ds, Wt⟩ := dw; rfl
theorem lcL_ok {f : D → Store → R (Option D)} {Wt : Watch} : ∀ {ds : List D} {S : Store}, (∃ r S', lcL f Wt ds S = .ok r S') ∨ lcL f Wt ds S = .bad
  | [], S => by
    unfold lcL
    cases watched Wt S with
    | true => exact .inl ⟨[], S, rfl⟩
    | false => exact .inr rfl
  | d :: ds, S => by
    unfold lcL
    cases watched Wt S with
    | false => exact .inr rfl
    | true =>
      simp only [if_true]
      cases f d S with
      | bad => exact .inr rfl
      | exc _ _ => exact .inr rfl
      | ok o S1 =>
        simp only [R.nox_ok, R.bind_ok]
        rcases lcL_ok (f := f) (Wt := Wt) (ds := ds) (S := S1) with ⟨r, S', e⟩ | e
        · rw [e]; exact .inl ⟨_, S', rfl⟩
        · rw [e]; exact .inr rfl
theorem lcL_cons {f : D → Store → R (Option D)} {Wt : Watch} {d : D} {ds : List D} {S S2 : Store} {r : List D} (h : lcL f Wt (d :: ds) S = .ok r S2) :
    watched Wt S = true ∧ ∃ o S1 r', f d S = .ok o S1 ∧ lcL f Wt ds S1 = .ok r' S2 ∧ r = (match o with | some y => y :: r' | none => r') := by
  unfold lcL at h
  cases hw : watched Wt S with
  | false => rw [hw] at h; cases h
  | true =>
    rw [hw] at h
    simp only [if_true] at h
    cases hf : f d S with
    | bad => rw [hf] at h; cases h
    | exc _ _ => rw [hf] at h; cases h
    | ok o S1 =>
      rw [hf] at h
      simp only [R.nox_ok, R.bind_ok] at h
      cases hL : lcL f Wt ds S1 with
      | bad => rw [hL] at h; cases h
      | exc _ _ => rw [hL] at h; cases h
      | ok r' S' =>
        rw [hL] at h
        simp only [R.bind_ok, R.ok.injEq] at h
        obtain ⟨h1, rfl⟩ := h
        exact ⟨rfl, o, S1, r', rfl, hL, h1.symm⟩
theorem lcL_nil {f : D → Store → R (Option D)} {Wt : Watch} {S S2 : Store} {r : List D} (h : lcL f Wt [] S = .ok r S2) : watched Wt S = true ∧ r = [] ∧ S = S2 := by
  unfold lcL at h
  cases hw : watched Wt S with
  | false => rw [hw] at h; cases h
  | true =>
    rw [hw] at h
    simp only [if_true, R.ok.injEq] at h
    exact ⟨rfl, h.1.symm, h.2⟩
/-- the guarded list is changed, and let go -/
theorem Mh.reguard {K : PySem.W.Frag} {H : Hp} {S : Store} {F : Hp} {cs : List Addr} {P : Hp} {D : Addr} {o o' : HO} (m : Mh K H S F ⟨cs, upd P D o⟩) (hP : P D = none) : Mh K (upd H D o') S F ⟨cs, P⟩ := by
  obtain ⟨g1, g2⟩ := m.gf D o upd_same
  refine ⟨fun a u e => ?_, m.mlen, fun i a c e1 e2 => ?_, m.nd, m.off, fun a u e => ?_, fun a u e => ?_⟩
  · have ne : a ≠ D := fun z => by rw [z, g1] at e; cases e
    rw [upd_ne ne]; exact m.sub a u e
  · have q := m.cell i a c e1 e2
    have ne : a ≠ D := fun z => g2 (z ▸ List.mem_iff_getElem?.mpr ⟨i, e1⟩)
    exact q.keep (Le.refl F) (upd_ne ne)
  · have ne : a ≠ D := fun z => by have e : P a = some u := e; rw [z, hP] at e; cases e
    rw [upd_ne ne]
    exact m.gd a u (by show upd P D o a = _; rw [upd_ne ne]; exact e)
  · have ne : a ≠ D := fun z => by have e : P a = some u := e; rw [z, hP] at e; cases e
    exact m.gf a u (by show upd P D o a = _; rw [upd_ne ne]; exact e)
theorem Mh.unguard {K : PySem.W.Frag} {H : Hp} {S : Store} {F : Hp} {cs : List Addr} {P : Hp} {D : Addr} {o : HO} (m : Mh K H S F ⟨cs, upd P D o⟩) (hP : P D = none) : Mh K H S F ⟨cs, P⟩ := by
  refine m.guard (fun a u e => ?_) fun a u e => ?_
  · have ne : a ≠ D := fun z => by rw [z, hP] at e; cases e
    exact m.gd a u (by show upd P D o a = _; rw [upd_ne ne]; exact e)
  · have ne : a ≠ D := fun z => by rw [z, hP] at e; cases e
    exact m.gf a u (by show upd P D o a = _; rw [upd_ne ne]; exact e)
/-- what is walked, where what is guarded stays guarded -/
def ItIsP (K : PySem.W.Frag) (F : Hp) (μ : Fp) (ds : List D) (Wt : Watch) (J : It) : Prop :=
  ∀ (i : Nat) (H' : Hp) (S' : Store) (F' : Hp) (μ' : Fp), Le F F' → μ.pre μ' → Le μ.P μ'.P → Mh K H' S' F' μ' → watched Wt S' = true →
    (∀ d, ds[i]? = some d → J.go i H' ∧ ∀ x H'', J.yld i H' x H'' → ∃ F'', Le F' F'' ∧ Mh K H'' S' F'' μ' ∧ Rep K F'' d x) ∧ (i = ds.length → J.stop i H')
theorem ItIs.p {K : PySem.W.Frag} {F : Hp} {μ : Fp} {ds : List D} {Wt : Watch} {J : It} (it : ItIs K F μ ds Wt J) {P : Hp} : ItIsP K F ⟨μ.cs, P⟩ ds Wt J :=
  fun i H' S' F' μ' l p _ m w => it i H' S' F' μ' l p m w
/-- the loop, whatever is walked, behind what is in the list already -/
theorem lc_loopG {J : It} {ds : List D} {Wt : Watch} {ifs' : List DE} {elt' : DE} {tg' : DT} {own : List Nat} {ρ : Loc} {S1 S2 : Store} {F1 : Hp} {μ : Fp} {Rs : List D} {σ : L2.St} {H1 : Hp} {Fin : Hp → Prop} {turn : D → Store → R (Option D)} {W0 : WX} {vs0 : List V}
    (hslots : ∀ i ∈ tg'.slots, i ∈ own) (hT : lcTurn call elt' tg' ifs' own ρ = turn) (ml : Ml X.K σ ρ F1 μ) (m1 : Mh X.K H1 S1 F1 μ) (it : ItIsP X.K F1 μ ds Wt J) (hL : lcL turn Wt ds S1 = .ok Rs S2) (hz : vs0.length + Rs.length ≤ sizeLine)
    (D : Addr) (hFD1 : F1 D = none) (hnc : D ∉ μ.cs) (hnP : μ.P D = none) (hD1 : H1 D = some (.lst vs0)) (hFin : ∀ Hc F' ws, Le F1 F' → Mh X.K Hc S2 F' μ → F' D = none → Hc D = some (.lst (vs0 ++ ws)) → Reps X.K F' Rs ws → Fin Hc) :
    ∃ W : Nat → Nat → Hp → Prop, (∃ m, W 0 m H1) ∧ ∀ i m H, W i m H → (J.stop i H ∧ Fin H) ∨ (J.go i H ∧ ∃ Nx : Hp → Prop, (∀ H', Nx H' → ∃ m', m' < m ∧ W (i + 1) m' H') ∧
      ∀ x H', J.yld i H x H' → rdG X tg' x (wipe σ own) H' fun σ2 H2 => wipe σ2 own = wipe σ own ∧ rdT X W0 (evTs call ifs') σ2 H2 fun b H3 =>
        if b = true then rdE X W0 (evE call elt') σ2 H3 fun y H4 => ∃ acc, H4 D = some (.lst acc) ∧ acc.length < sizeLine ∧ Nx (upd H4 D (.lst (acc ++ [y]))) else Nx H3) := by
  refine ⟨fun i m Hc => m = ds.length - i ∧ i ≤ ds.length ∧ ∃ r0 rest vs S' F', lcL turn Wt (ds.drop i) S' = .ok rest S2 ∧ r0 ++ rest = Rs ∧ Le F1 F' ∧ Mh X.K Hc S' F' μ ∧ F' D = none ∧ Hc D = some (.lst (vs0 ++ vs)) ∧ Reps X.K F' r0 vs,
    ⟨ds.length, by simp, Nat.zero_le _, [], Rs, [], S1, F1, by rw [List.drop_zero]; exact hL, rfl, Le.refl _, m1, hFD1, by rw [List.append_nil]; exact hD1, rfl⟩, fun i m Hc hW => ?_⟩
  obtain ⟨rfl, hi', r0, rest, vs, S', F', hrun, hR, lF, mc, hFD, hDc, rep⟩ := hW
  by_cases hlt : i < ds.length
  · right
    have hdrop : ds.drop i = ds[i] :: ds.drop (i + 1) := List.drop_eq_getElem_cons hlt
    rw [hdrop] at hrun
    obtain ⟨hw, o, Sb, r', hf, hrun', hrest⟩ := lcL_cons hrun
    have mD : Mh X.K Hc S' F' ⟨μ.cs, upd μ.P D (.lst (vs0 ++ vs))⟩ := by
      refine mc.guard (fun a u e => ?_) fun a u e => ?_
      · by_cases ha : a = D
        · subst ha; rw [upd_same] at e; cases e; exact hDc
        · rw [upd_ne ha] at e; exact mc.gd a u e
      · by_cases ha : a = D
        · subst ha; exact ⟨hFD, hnc⟩
        · rw [upd_ne ha] at e; exact mc.gf a u e
    obtain ⟨hgo, hy⟩ := (it i Hc S' F' ⟨μ.cs, upd μ.P D (.lst (vs0 ++ vs))⟩ lF ⟨[], by simp⟩ (Le.upd hnP) mD hw).1 ds[i] (List.getElem?_eq_getElem hlt)
    refine ⟨hgo, fun H' => ∃ r0 rest vs S' F', lcL turn Wt (ds.drop (i + 1)) S' = .ok rest S2 ∧ r0 ++ rest = Rs ∧ Le F1 F' ∧ Mh X.K H' S' F' μ ∧ F' D = none ∧ H' D = some (.lst (vs0 ++ vs)) ∧ Reps X.K F' r0 vs,
      fun H' h => ⟨ds.length - (i + 1), by omega, rfl, hlt, h⟩, fun x H2 hyx => ?_⟩
    obtain ⟨F2, l2, m2, rx⟩ := hy x H2 hyx
    rw [← hT] at hf
    unfold lcTurn at hf
    cases hb : bindT tg' (.p ds[i]) (wipeρ ρ own) with
    | none => rw [hb] at hf; cases hf
    | some ρ' =>
      rw [hb] at hf
      dsimp only at hf
      refine ⟨.p ds[i], wipeρ ρ own, S', F2, ⟨μ.cs, upd μ.P D (.lst (vs0 ++ vs))⟩, ρ', ((ml.mono lF).mono l2).wipe _ |>.pre ⟨[], by simp⟩, m2, rx, hb, fun σ2 ml2 w2 => ⟨by rw [w2 _ hslots, wipe_wipe], ?_⟩⟩
      cases hts : evTs call ifs' ρ' S' with
      | bad => rw [hts] at hf; cases hf
      | exc _ _ => rw [hts] at hf; cases hf
      | ok t Sa =>
        rw [hts] at hf
        simp only [R.bind_ok] at hf
        refine ⟨ρ', S', F2, ⟨μ.cs, upd μ.P D (.lst (vs0 ++ vs))⟩, ml2, m2, ?_⟩
        rw [hts]
        intro b H3 F3 l3 m3 eb
        cases (show t = b from eb)
        cases t with
        | false =>
          rw [if_neg (by decide)] at hf ⊢
          cases hf
          refine ⟨r0, r', vs, _, F3, hrun', by rw [← hR, hrest], (lF.trans l2).trans l3, m3.unguard hnP, (m3.gf D _ upd_same).1, m3.gd D _ upd_same, rep.mono (l2.trans l3)⟩
        | true =>
          rw [if_pos rfl] at hf ⊢
          cases hee : evE call elt' ρ' Sa with
          | bad => rw [hee] at hf; cases hf
          | exc _ _ => rw [hee] at hf; cases hf
          | ok y Sc =>
            rw [hee] at hf
            simp only [R.bind_ok] at hf
            cases y with
            | c _ => cases hf
            | p y =>
              cases hf
              refine ⟨ρ', Sa, F3, ⟨μ.cs, upd μ.P D (.lst (vs0 ++ vs))⟩, ml2.mono l3, m3, ?_⟩
              rw [hee]
              intro yv H4 F4 l4 m4 ry
              have hl4 := (l2.trans l3).trans l4
              refine ⟨vs0 ++ vs, m4.gd D _ upd_same, ?_, r0 ++ [y], r', vs ++ [yv], _, F4, hrun', by rw [← hR, hrest]; simp, lF.trans hl4, m4.reguard hnP, (m4.gf D _ upd_same).1, by rw [List.append_assoc]; exact upd_same, (rep.mono hl4).append (Reps.cons ry rfl)⟩
              rw [List.length_append, rep.length]
              have : Rs.length = r0.length + (r'.length + 1) := by rw [← hR, hrest]; simp
              omega
  · left
    have e : i = ds.length := by omega
    subst e
    rw [List.drop_length] at hrun
    obtain ⟨hw, rfl, rfl⟩ := lcL_nil hrun
    refine ⟨(it _ Hc _ F' μ lF (Fp.pre.refl _) (Le.refl _) mc hw).2 rfl, ?_⟩
    rw [List.append_nil] at hR
    subst hR
    exact hFin Hc F' vs lF mc hFD hDc rep
/-- the loop, whatever is walked -/
theorem lc_loop {J : It} {ds : List D} {Wt : Watch} {ifs' : List DE} {elt' : DE} {tg' : DT} {own : List Nat} {ρ : Loc} {S1 S2 : Store} {F1 : Hp} {μ : Fp} {Rs : List D} {σ : L2.St} {H1 : Hp} {Q : VK} {turn : D → Store → R (Option D)} {W0 : WX}
    (hslots : ∀ i ∈ tg'.slots, i ∈ own) (hT : lcTurn call elt' tg' ifs' own ρ = turn) (ml : Ml X.K σ ρ F1 μ) (m1 : Mh X.K H1 S1 F1 μ) (it : ItIsP X.K F1 μ ds Wt J) (hL : lcL turn Wt ds S1 = .ok Rs S2) (hz : Rs.length ≤ sizeLine)
    (D : Addr) (hD : H1 D = none) (h1 : ∀ b Hc F', Le F1 F' → Mh X.K Hc S2 F' μ → Hc D = Hc D → F' D = none → RepF X.K μ F' Hc (.p (.lst Rs)) b → b = .ref D → Q b Hc) :
    ∃ W : Nat → Nat → Hp → Prop, (∃ m, W 0 m (upd H1 D (.lst []))) ∧ ∀ i m H, W i m H → (J.stop i H ∧ Q (.ref D) H) ∨ (J.go i H ∧ ∃ Nx : Hp → Prop, (∀ H', Nx H' → ∃ m', m' < m ∧ W (i + 1) m' H') ∧
      ∀ x H', J.yld i H x H' → rdG X tg' x (wipe σ own) H' fun σ2 H2 => wipe σ2 own = wipe σ own ∧ rdT X W0 (evTs call ifs') σ2 H2 fun b H3 =>
        if b = true then rdE X W0 (evE call elt') σ2 H3 fun y H4 => ∃ acc, H4 D = some (.lst acc) ∧ acc.length < sizeLine ∧ Nx (upd H4 D (.lst (acc ++ [y]))) else Nx H3) :=
  lc_loopG (Fin := fun Hc => Q (.ref D) Hc) (vs0 := []) hslots hT ml (m1.grow hD) it hL (by simpa using hz) D (m1.noneF hD) (m1.notin hD) (m1.noneP hD) upd_same fun Hc F' ws l mc hFD hDc rep =>
    h1 (.ref D) Hc F' l mc rfl hFD ⟨D, ws, rfl, by simpa using hDc, hFD, m1.notin hD, m1.noneP hD, rep⟩ rfl
/-! ### two clauses -/
/-- a turn of the first clause -/
def lcTurn2 (call : CallF) (elt : DE) (tg : DT) (ifs : List DE) (tg1 : DT) (k1 : IK) (args1 ifs1 : List DE) (own : List Nat) (ρ : Loc) (d : D) (S : Store) : R (List D) :=
  match bindT tg (.p d) (wipeρ ρ own) with
  | none => .bad
  | some ρ' => (evTs call ifs ρ' S).bind fun t S1 => if t = true then (evI call k1 args1 ρ' S1).bind fun dw S2 => lcL (lcTurn call elt tg1 ifs1 tg1.slots ρ') dw.2 dw.1 S2
    else .ok [] S1
theorem evE_lc2 {elt : DE} {tg : DT} {k : IK} {args ifs : List DE} {tg1 : DT} {k1 : IK} {args1 ifs1 : List DE} {own : List Nat} {ρ : Loc} {S : Store} : evE call (.lc2 elt tg k args ifs tg1 k1 args1 ifs1 own) ρ S =
    (evI call k args ρ S).bind fun dw S1 => (lcM (lcTurn2 call elt tg ifs tg1 k1 args1 ifs1 own ρ) dw.2 dw.1 S1).bind fun r S2 => if r.length ≤ sizeLine then .ok (.p (.lst r)) S2 else .bad := by
  have e : lcTurn2 call elt tg ifs tg1 k1 args1 ifs1 own ρ = fun d S => match bindT tg (.p d) (wipeρ ρ own) with
        | none => .bad
        | some ρ' => (evTs call ifs ρ' S).bind fun t S1 => if t = true then (evL call args1 ρ' S1).bind fun vs1 S2 => (match itemsOf k1 vs1 S2 with
            | none => .bad
            | some (ds1, W1) => lcL (lcTurn call elt tg1 ifs1 tg1.slots ρ') W1 ds1 S2)
          else .ok [] S1 := by
    funext d S
    unfold lcTurn2
    cases bindT tg (.p d) (wipeρ ρ own) with
    | none => rfl
    | some ρ' =>
      dsimp only
      congr 1
      funext t S1
      cases t with
      | false => rfl
      | true =>
        rw [if_pos rfl, if_pos rfl]
        unfold evI
        cases evL call args1 ρ' S1 with
        | bad => rfl
        | exc _ _ => rfl
        | ok vs S2 =>
          simp only [R.bind_ok]
          cases itemsOf k1 vs S2 with
          | none => rfl
          | some dw => obtain ⟨ds, Wt⟩ := dw; rfl
  rw [e]
  simp only [evE, evI]
  cases evL call args ρ S with
  | bad => rfl
  | exc _ _ => rfl
  | ok vs S1 =>
    simp only [R.bind_ok]
    cases itemsOf k vs S1 with
    | none => rfl
    | some dw => obtain ⟨ds, Wt⟩ := dw; rfl
theorem lcM_ok {f : D → Store → R (List D)} {Wt : Watch} : ∀ {ds : List D} {S : Store}, (∃ r S', lcM f Wt ds S = .ok r S') ∨ lcM f Wt ds S = .bad
  | [], S => by
    unfold lcM
    cases watched Wt S with
    | true => exact .inl ⟨[], S, rfl⟩
    | false => exact .inr rfl
  | d :: ds, S => by
    unfold lcM
    cases watched Wt S with
    | false => exact .inr rfl
    | true =>
      simp only [if_true]
      cases f d S with
      | bad => exact .inr rfl
      | exc _ _ => exact .inr rfl
      | ok o S1 =>
        simp only [R.nox_ok, R.bind_ok]
        rcases lcM_ok (f := f) (Wt := Wt) (ds := ds) (S := S1) with ⟨r, S', e⟩ | e
        · rw [e]; exact .inl ⟨_, S', rfl⟩
        · rw [e]; exact .inr rfl
theorem lcM_cons {f : D → Store → R (List D)} {Wt : Watch} {d : D} {ds : List D} {S S2 : Store} {r : List D} (h : lcM f Wt (d :: ds) S = .ok r S2) :
    watched Wt S = true ∧ ∃ o S1 r', f d S = .ok o S1 ∧ lcM f Wt ds S1 = .ok r' S2 ∧ r = o ++ r' := by
  unfold lcM at h
  cases hw : watched Wt S with
  | false => rw [hw] at h; cases h
  | true =>
    rw [hw] at h
    simp only [if_true] at h
    cases hf : f d S with
    | bad => rw [hf] at h; cases h
    | exc _ _ => rw [hf] at h; cases h
    | ok o S1 =>
      rw [hf] at h
      simp only [R.nox_ok, R.bind_ok] at h
      cases hL : lcM f Wt ds S1 with
      | bad => rw [hL] at h; cases h
      | exc _ _ => rw [hL] at h; cases h
      | ok r' S' =>
        rw [hL] at h
        simp only [R.bind_ok, R.ok.injEq] at h
        obtain ⟨h1, rfl⟩ := h
        exact ⟨rfl, o, S1, r', rfl, hL, h1.symm⟩
theorem lcM_nil {f : D → Store → R (List D)} {Wt : Watch} {S S2 : Store} {r : List D} (h : lcM f Wt [] S = .ok r S2) : watched Wt S = true ∧ r = [] ∧ S = S2 := by
  unfold lcM at h
  cases hw : watched Wt S with
  | false => rw [hw] at h; cases h
  | true =>
    rw [hw] at h
    simp only [if_true, R.ok.injEq] at h
    exact ⟨rfl, h.1.symm, h.2⟩
theorem lc2_loop {J : It} {ds : List D} {Wt : Watch} {ifs' : List DE} {elt' : DE} {tg' tg1' : DT} {k1 : IK} {args1' ifs1' : List DE} {own : List Nat} {ρ : Loc} {S1 S2 : Store} {F1 : Hp} {μ : Fp} {Rs : List D} {σ : L2.St} {H1 : Hp} {Q : VK} {turn : D → Store → R (List D)} {W0 : WX}
    (hslots : ∀ i ∈ tg'.slots, i ∈ own) (hT : lcTurn2 call elt' tg' ifs' tg1' k1 args1' ifs1' own ρ = turn) (ml : Ml X.K σ ρ F1 μ) (m1 : Mh X.K H1 S1 F1 μ) (it : ItIsP X.K F1 μ ds Wt J) (hL : lcM turn Wt ds S1 = .ok Rs S2) (hz : Rs.length ≤ sizeLine)
    (D : Addr) (hD : H1 D = none) (h1 : ∀ b Hc F', Le F1 F' → Mh X.K Hc S2 F' μ → RepF X.K μ F' Hc (.p (.lst Rs)) b → Q b Hc) :
    ∃ W : Nat → Nat → Hp → Prop, (∃ m, W 0 m (upd H1 D (.lst []))) ∧ ∀ i m H, W i m H → (J.stop i H ∧ Q (.ref D) H) ∨ (J.go i H ∧ ∃ Nx : Hp → Prop, (∀ H', Nx H' → ∃ m', m' < m ∧ W (i + 1) m' H') ∧
      ∀ x H', J.yld i H x H' → rdG X tg' x (wipe σ own) H' fun σ2 H2 => wipe σ2 own = wipe σ own ∧ rdT X W0 (evTs call ifs') σ2 H2 fun b H3 =>
        if b = true then rdI X W0 (evI call k1 args1') σ2 H3 fun J1 H4 => ∃ W1 : Nat → Nat → Hp → Prop, (∃ m, W1 0 m H4) ∧ ∀ j k H, W1 j k H →
          (J1.stop j H ∧ Nx H) ∨ (J1.go j H ∧ ∃ Nx1 : Hp → Prop, (∀ H', Nx1 H' → ∃ k', k' < k ∧ W1 (j + 1) k' H') ∧ ∀ x H', J1.yld j H x H' → rdG X tg1' x (wipe σ2 tg1'.slots) H' fun σ3 H5 => wipe σ3 tg1'.slots = wipe σ2 tg1'.slots ∧ rdT X W0 (evTs call ifs1') σ3 H5 fun b H6 =>
            if b = true then rdE X W0 (evE call elt') σ3 H6 fun y H7 => ∃ acc, H7 D = some (.lst acc) ∧ acc.length < sizeLine ∧ Nx1 (upd H7 D (.lst (acc ++ [y]))) else Nx1 H6)
        else Nx H3) := by
  have hnc := m1.notin hD
  have hnP := m1.noneP hD
  refine ⟨fun i m Hc => m = ds.length - i ∧ i ≤ ds.length ∧ ∃ r0 rest vs S' F', lcM turn Wt (ds.drop i) S' = .ok rest S2 ∧ r0 ++ rest = Rs ∧ Le F1 F' ∧ Mh X.K Hc S' F' μ ∧ F' D = none ∧ Hc D = some (.lst vs) ∧ Reps X.K F' r0 vs,
    ⟨ds.length, by simp, Nat.zero_le _, [], Rs, [], S1, F1, by rw [List.drop_zero]; exact hL, rfl, Le.refl _, m1.grow hD, m1.noneF hD, upd_same, rfl⟩, fun i m Hc hW => ?_⟩
  obtain ⟨rfl, hi', r0, rest, vs, S', F', hrun, hR, lF, mc, hFD, hDc, rep⟩ := hW
  by_cases hlt : i < ds.length
  · right
    have hdrop : ds.drop i = ds[i] :: ds.drop (i + 1) := List.drop_eq_getElem_cons hlt
    rw [hdrop] at hrun
    obtain ⟨hw, o, Sb, r', hf, hrun', hrest⟩ := lcM_cons hrun
    have mD : Mh X.K Hc S' F' ⟨μ.cs, upd μ.P D (.lst vs)⟩ := by
      refine mc.guard (fun a u e => ?_) fun a u e => ?_
      · by_cases ha : a = D
        · subst ha; rw [upd_same] at e; cases e; exact hDc
        · rw [upd_ne ha] at e; exact mc.gd a u e
      · by_cases ha : a = D
        · subst ha; exact ⟨hFD, hnc⟩
        · rw [upd_ne ha] at e; exact mc.gf a u e
    obtain ⟨hgo, hy⟩ := (it i Hc S' F' ⟨μ.cs, upd μ.P D (.lst vs)⟩ lF ⟨[], by simp⟩ (Le.upd hnP) mD hw).1 ds[i] (List.getElem?_eq_getElem hlt)
    refine ⟨hgo, fun H' => ∃ r0 rest vs S' F', lcM turn Wt (ds.drop (i + 1)) S' = .ok rest S2 ∧ r0 ++ rest = Rs ∧ Le F1 F' ∧ Mh X.K H' S' F' μ ∧ F' D = none ∧ H' D = some (.lst vs) ∧ Reps X.K F' r0 vs,
      fun H' h => ⟨ds.length - (i + 1), by omega, rfl, hlt, h⟩, fun x H2 hyx => ?_⟩
    obtain ⟨F2, l2, m2, rx⟩ := hy x H2 hyx
    rw [← hT] at hf
    unfold lcTurn2 at hf
    cases hb : bindT tg' (.p ds[i]) (wipeρ ρ own) with
    | none => rw [hb] at hf; cases hf
    | some ρ' =>
      rw [hb] at hf
      dsimp only at hf
      refine ⟨.p ds[i], wipeρ ρ own, S', F2, ⟨μ.cs, upd μ.P D (.lst vs)⟩, ρ', ((ml.mono lF).mono l2).wipe _ |>.pre ⟨[], by simp⟩, m2, rx, hb, fun σ2 ml2 w2 => ⟨by rw [w2 _ hslots, wipe_wipe], ?_⟩⟩
      cases hts : evTs call ifs' ρ' S' with
      | bad => rw [hts] at hf; cases hf
      | exc _ _ => rw [hts] at hf; cases hf
      | ok t Sa =>
        rw [hts] at hf
        simp only [R.bind_ok] at hf
        refine ⟨ρ', S', F2, ⟨μ.cs, upd μ.P D (.lst vs)⟩, ml2, m2, ?_⟩
        rw [hts]
        intro b H3 F3 l3 m3 eb
        cases (show t = b from eb)
        cases t with
        | false =>
          rw [if_neg (by decide)] at hf ⊢
          cases hf
          refine ⟨r0, r', vs, _, F3, hrun', by rw [← hR, hrest]; rfl, (lF.trans l2).trans l3, m3.unguard hnP, (m3.gf D _ upd_same).1, m3.gd D _ upd_same, rep.mono (l2.trans l3)⟩
        | true =>
          rw [if_pos rfl] at hf ⊢
          cases hee : evI call k1 args1' ρ' Sa with
          | bad => rw [hee] at hf; cases hf
          | exc _ _ => rw [hee] at hf; cases hf
          | ok dw Sd =>
            rw [hee] at hf
            simp only [R.bind_ok] at hf
            refine ⟨ρ', Sa, F3, ⟨μ.cs, upd μ.P D (.lst vs)⟩, ml2.mono l3, m3, ?_⟩
            rw [hee]
            intro J1 H4 F4 l4 m4 it1
            have it1 : ItIs X.K F4 ⟨μ.cs, upd μ.P D (.lst vs)⟩ dw.1 dw.2 J1 := it1
            have hl4 := (l2.trans l3).trans l4
            refine lc_loopG (σ := σ2) (ρ := ρ') (μ := μ) (vs0 := vs) (fun i h => h) rfl (((ml2.mono l3).mono l4).pre ⟨[], by simp⟩) (m4.unguard hnP) it1.p hf ?_ D (m4.gf D _ upd_same).1 hnc hnP (m4.gd D _ upd_same) fun Hc' F' ws l mc' hFD' hDc' rep' =>
              ⟨r0 ++ o, r', vs ++ ws, _, F', hrun', by rw [← hR, hrest, List.append_assoc], lF.trans (hl4.trans l), mc', hFD', hDc', (rep.mono (hl4.trans l)).append rep'⟩
            rw [rep.length]
            have : Rs.length = r0.length + (o.length + r'.length) := by rw [← hR, hrest]; simp
            omega
  · left
    have e : i = ds.length := by omega
    subst e
    rw [List.drop_length] at hrun
    obtain ⟨hw, rfl, rfl⟩ := lcM_nil hrun
    refine ⟨(it _ Hc _ F' μ lF (Fp.pre.refl _) (Le.refl _) mc hw).2 rfl, ?_⟩
    rw [List.append_nil] at hR
    subst hR
    exact h1 (.ref D) Hc F' lF mc ⟨D, vs, rfl, hDc, hFD, hnc, hnP, rep⟩
theorem snd_lc (g : Gd ci call kl st W sc X) {elt tg iter : Expr} {ifs : List Expr} {scope : Scope} {own : List (Str × Nat)} {pos : Pos} {k : IK} {args' ifs' : List DE} {elt' : DE} {tg' : DT}
    (ok : BlkOk X.N X.env.scope scope own) (hslots : ∀ i ∈ tg'.slots, i ∈ own.map (·.2)) (hi : PI X tg iter (rdI X W (evI call k args'))) (hs : ∀ x, foldedSetIterable iter X.env x = pure x)
    (hg : ∀ (s : Shared) (H : Hp) (C : Addr) (cl : List (Str × Addr)) (fp : List Addr), PG (X.blk s H scope (compEnvC scope cl C X.env) fp) tg (rdG X tg'))
    (ht : ∀ (s : Shared) (H : Hp) (C : Addr) (cl : List (Str × Addr)) (fp : List Addr), PTs (X.blk s H scope (compEnvC scope cl C X.env) fp) ifs (rdT X (fun _ _ _ _ => False) (evTs call ifs')))
    (he : ∀ (s : Shared) (H : Hp) (C : Addr) (cl : List (Str × Addr)) (fp : List Addr), PE (X.blk s H scope (compEnvC scope cl C X.env) fp) elt (rdE X (fun _ _ _ _ => False) (evE call elt'))) {σ : L2.St} {H : Hp} {Q : VK}
    (hq : rdF X W (evE call (.lc elt' tg' k args' ifs' (own.map (·.2)))) σ H Q) :
    tLc (rdI X W (evI call k args')) (rdG X tg') (rdT X (fun _ _ _ _ => False) (evTs call ifs')) (rdE X (fun _ _ _ _ => False) (evE call elt')) (own.map (·.2)) σ H Q := by
  obtain ⟨ρ, S, F, μ, ml, mh, hh⟩ := hq
  rw [evE_lc] at hh
  refine ⟨ρ, S, F, μ, ml, mh, hh.split fun dw S1 J H1 F1 e1 l1 m1 it h1 D hD => ?_⟩
  obtain ⟨ds, Wt⟩ := dw
  generalize hT : lcTurn call elt' tg' ifs' (own.map (·.2)) ρ = turn at h1
  rcases lcL_ok (f := turn) (Wt := Wt) (ds := ds) (S := S1) with ⟨Rs, S2, hL⟩ | hL
  · simp only [hL, R.bind_ok] at h1
    by_cases hz : Rs.length ≤ sizeLine
    · rw [if_pos hz] at h1
      exact lc_loop hslots hT (ml.mono l1) m1 (ItIs.p it) hL hz D hD fun b Hc F' l m _ _ r _ => h1 b Hc F' l m r
    · rw [if_neg hz] at h1; exact (show False from h1).elim
  · simp only [hL, R.bind_bad] at h1
    exact (show False from h1).elim

theorem snd_lc2 {k : IK} {args' ifs' : List DE} {elt' : DE} {tg' tg1' : DT} {k1 : IK} {args1' ifs1' : List DE} {own : List Nat} (hslots : ∀ i ∈ tg'.slots, i ∈ own) {σ : L2.St} {H : Hp} {Q : VK}
    (hq : rdF X W (evE call (.lc2 elt' tg' k args' ifs' tg1' k1 args1' ifs1' own)) σ H Q) :
    tLc2 (rdI X W (evI call k args')) (rdG X tg') (rdT X (fun _ _ _ _ => False) (evTs call ifs')) (rdI X (fun _ _ _ _ => False) (evI call k1 args1')) (rdG X tg1') (rdT X (fun _ _ _ _ => False) (evTs call ifs1')) (rdE X (fun _ _ _ _ => False) (evE call elt')) own tg1'.slots σ H Q := by
  obtain ⟨ρ, S, F, μ, ml, mh, hh⟩ := hq
  rw [evE_lc2] at hh
  refine ⟨ρ, S, F, μ, ml, mh, hh.split fun dw S1 J H1 F1 e1 l1 m1 it h1 D hD => ?_⟩
  obtain ⟨ds, Wt⟩ := dw
  generalize hT : lcTurn2 call elt' tg' ifs' tg1' k1 args1' ifs1' own ρ = turn at h1
  rcases lcM_ok (f := turn) (Wt := Wt) (ds := ds) (S := S1) with ⟨Rs, S2, hL⟩ | hL
  · simp only [hL, R.bind_ok] at h1
    by_cases hz : Rs.length ≤ sizeLine
    · rw [if_pos hz] at h1
      exact lc2_loop hslots hT (ml.mono l1) m1 (ItIs.p it) hL hz D hD fun b Hc F' l m r => h1 b Hc F' l m r
    · rw [if_neg hz] at h1; exact (show False from h1).elim
  · simp only [hL, R.bind_bad] at h1
    exact (show False from h1).elim

/-! ### every compiled expression -/
theorem compE_star {n : Nat} {a : Expr} {p : Pos} : compE ci n sc (.Starred a p) = none := by cases n <;> rfl
theorem compE_set {n : Nat} {es : List Expr} {k : Nat} {p : Pos} : compE ci n sc (.Set es k p) = none := by cases n <;> rfl
theorem compE_slice {n : Nat} {a b c : Option Expr} {p : Pos} : compE ci n sc (.Slice a b c p) = none := by cases n <;> rfl
theorem folded_of {e : Expr} {env : Env} (h : ∀ es k p, e ≠ .Set es k p) : ∀ x, foldedSetIterable e env x = pure x := fun x => by
  cases e <;> first | rfl | exact absurd rfl (h _ _ _)
theorem optAll_sndL {n : Nat} (ih : ∀ {e : Expr} {e' : DE}, compE ci n sc e = some e' → PE X e (rdE X W (evE call e'))) : ∀ {es : List Expr} {es' : List DE}, optAll (compE ci n sc) es = some es' → SndL X W call es es'
  | [], _, h => by cases h; exact .nil
  | e :: es, _, h => by
    obtain ⟨b, r, h1, h2, rfl⟩ := optAll_cons h
    exact .cons (fun a p z => by rw [z, compE_star] at h1; cases h1) (ih h1) (optAll_sndL ih h2)
theorem plainIx_of {i : Expr} (h : ∀ a b c p, i ≠ .Slice a b c p) : PlainIx i := fun o v => by
  cases i <;> first | rfl | exact absurd rfl (h _ _ _ _)
theorem bools_frsh {op : BoolOp} : ∀ {es : List DE} {e : DE}, bools op es = some e → frsh e = false ∨ ∃ a, es = [a]
  | [], _, h => by cases h
  | [a], _, _ => .inr ⟨a, rfl⟩
  | a :: b :: r, _, h => by
    simp only [bools, Option.map_eq_some_iff] at h
    obtain ⟨t, _, rfl⟩ := h
    cases op <;> exact .inl rfl
theorem snd_pop (g : Gd ci call kl st W sc X) {o a : Expr} {o' a' : DE} {nm : Str} {apos cpos : Pos} (ho : PE X o (rdE X W (evE call o'))) (ha : SndL X W call [a] [a']) (hnm : nm = "pop") (hline : (apos.endLine == cpos.line) = true) (hN : isNameE o = true) :
    PE X (.Call (.Attribute o nm apos) [a] [] cpos) (rdE X W (evE call (.pop o' a'))) := by
  subst hnm
  have hst := ha.star (env := X.env)
  have hpe : PE X (.Call (.Attribute o "pop" apos) [a] [] cpos) (tBM X.K "list" rPopAt (rdE X W (evE call o')) (rdL X W (evL call [a']))) :=
    pe_bm PySem.F.plainAttrs_list PySem.F.slot_list_pop PySem.F.type_list_pop mt_popAt ho ha.pa (by cases o <;> first | rfl | cases hN)
      (by rw [hst]; rfl) hline (by rw [hst]; rfl) rfl
  refine PE.imp hpe fun σ H Q hq => ?_
  obtain ⟨ρ, S, F, μ, ml, mh, hh⟩ := hq
  have hh : End X.K X.mg (WE W σ) μ (RpE X.K μ) F ((evE call o' ρ S).bind fun x S1 => match x with
    | .c j => if isLst S1 j = true then (evE call a' ρ S1).bind fun y S2 => (match y with
      | .p (.int k) => (match S2[j]? with
        | some (.lst xs) => if -(2 ^ 63) ≤ k ∧ k < 2 ^ 63 then (match L2.ixN xs.length k with
          | some m => (match xs[m]? with
            | some d => .ok (.p d) (S2.set j (.lst (xs.eraseIdx m)))
            | none => .bad)
          | none => .bad) else .bad
        | _ => .bad)
      | _ => .bad) else .bad
    | .p _ => .bad) Q := hh
  refine ⟨ρ, S, F, μ, ml, mh, hh.split fun x S1 xv H1 F1 _ l1 m1 r1 h1 => ?_⟩
  cases x with
  | p d => exact (show False from h1).elim
  | c j =>
    obtain ⟨p, p1, rfl⟩ := r1
    dsimp only at h1
    by_cases hjl : isLst S1 j = true
    rotate_left
    · rw [if_neg hjl] at h1; exact (show False from h1).elim
    rw [if_pos hjl] at h1
    obtain ⟨vs0, t1⟩ := m1.thereL p1 hjl
    have key : End X.K X.mg (WE W σ) μ (RpE X.K μ) F1 (evE call a' ρ S1) (fun b H2 => rPopAt (.ref p) [b] H2 Q) := by
      refine h1.split fun v S2 b H2 F2 _ l2 m2 r2 h2 => ?_
      split at h2
      · rename_i k _
        split at h2
        · rename_i xs hxs
          split at h2
          · rename_i hk
            split at h2
            · rename_i m hm
              split at h2
              · rename_i d hd
                obtain ⟨vs, q1, q2⟩ := m2.cell j p _ p1 hxs
                cases (show b = .int k from r2)
                obtain ⟨h3, h4, h5, h6⟩ := ixN_seq hm
                obtain ⟨y, y1, y2⟩ := q2.get hd
                refine ⟨p, vs, k, m, y, rfl, rfl, q1, hk.1, hk.2, by rw [q2.length]; exact h3, y1, ?_⟩
                exact h2 y _ F2 (Le.refl _) (m2.put p1 (q2.eraseIdx m)) y2
              · exact (show False from h2).elim
            · exact (show False from h2).elim
          · exact (show False from h2).elim
        · exact (show False from h2).elim
      · exact (show False from h2).elim
    have hl : End X.K X.mg (WE W σ) μ (RpL X.K μ) F1 (evL call [a'] ρ S1) (fun xs H2 => rPopAt (.ref p) xs H2 Q) := by
      rw [evL_one]
      cases ev : evE call a' ρ S1 with
      | bad => rw [ev] at key; exact key
      | exc e S2 => rw [ev] at key; exact key
      | ok v S2 =>
        rw [ev] at key
        intro bs H2 F2 l2 m2 r2
        obtain ⟨b, rest, rfl, r3, r4⟩ := r2
        cases r4
        exact key b H2 F2 l2 m2 r3
    exact ⟨.inl ⟨rfl, vs0, .of t1⟩, ρ, S1, F1, μ, ml.mono l1, m1, hl⟩
theorem idxI_some {k : Int} : ∀ {ns : List Int} {m : Nat}, idxI k ns = some m → ns[m]? = some k ∧ ∀ j z, j < m → ns[j]? = some z → z ≠ k
  | [], m, h => by cases h
  | x :: xs, m, h => by
    unfold idxI at h
    split at h
    · rename_i e
      cases h
      subst e
      exact ⟨rfl, fun j z hj => by omega⟩
    · rename_i e
      simp only [Option.map_eq_some_iff] at h
      obtain ⟨m', h1, rfl⟩ := h
      obtain ⟨p1, p2⟩ := idxI_some h1
      refine ⟨by simpa using p1, fun j z hj hz => ?_⟩
      cases j with
      | zero => simp at hz; subst hz; exact e
      | succ j => exact p2 j z (by omega) (by simpa using hz)
/-- xs.index(k), ints -/
theorem snd_idx (g : Gd ci call kl st W sc X) {o a : Expr} {o' a' : DE} {nm : Str} {apos cpos : Pos} (ho : PE X o (rdE X W (evE call o'))) (ha : SndL X W call [a] [a']) (hnm : nm = "index") (hline : (apos.endLine == cpos.line) = true) (hN : isNameE o = true) :
    PE X (.Call (.Attribute o nm apos) [a] [] cpos) (rdE X W (evE call (.idx o' a'))) := by
  subst hnm
  have hst := ha.star (env := X.env)
  have hpe : PE X (.Call (.Attribute o "index" apos) [a] [] cpos) (tBM X.K "list" (rIndex X.K) (rdE X W (evE call o')) (rdL X W (evL call [a']))) :=
    pe_bm PySem.F.plainAttrs_list PySem.F.slot_list_index PySem.F.type_list_index mt_index ho ha.pa (by cases o <;> first | rfl | cases hN)
      (by rw [hst]; rfl) hline (by rw [hst]; rfl) rfl
  refine PE.imp hpe fun σ H Q hq => ?_
  obtain ⟨ρ, S, F, μ, ml, mh, hh⟩ := hq
  have hh : End X.K X.mg (WE W σ) μ (RpE X.K μ) F ((evE call o' ρ S).bind fun x S1 => match x with
    | .p (.lst xs) => (match intsOf xs with
      | some ns => (evE call a' ρ S1).bind fun y S2 => (match y with
        | .p (.int k) => R.of ((idxI k ns).map fun m => .p (.int (m : Nat))) S2
        | _ => .bad)
      | none => .bad)
    | _ => .bad) Q := hh
  refine ⟨ρ, S, F, μ, ml, mh, hh.split fun x S1 xv H1 F1 _ l1 m1 r1 h1 => ?_⟩
  split at h1
  rotate_left
  · exact (show False from h1).elim
  rename_i xs
  split at h1
  rotate_left
  · exact (show False from h1).elim
  rename_i ns hi
  obtain ⟨p, vs, rfl, p1, p2⟩ := r1
  have ev := p2.ints hi
  subst ev
  have key : End X.K X.mg (WE W σ) μ (RpE X.K μ) F1 (evE call a' ρ S1) (fun b H2 => rIndex X.K (.ref p) [b] H2 Q) := by
    refine h1.split fun v S2 b H2 F2 _ l2 m2 r2 h2 => ?_
    split at h2
    rotate_left
    · exact (show False from h2).elim
    rename_i k _
    cases hx : idxI k ns with
    | none => rw [hx] at h2; exact (show False from h2).elim
    | some m =>
      rw [hx] at h2
      cases (show b = .int k from r2)
      obtain ⟨q1, q2⟩ := idxI_some hx
      refine ⟨p, ns.map V.int, .int k, m, .int k, rfl, rfl, .of (m2.sub _ _ (l2 _ _ p1)), rfl, by simp [flatV], by rw [List.getElem?_map, q1]; rfl, by simp [eqV], fun j z hj hz => ?_, ?_⟩
      · rw [List.getElem?_map] at hz
        cases hn : ns[j]? with
        | none => rw [hn] at hz; cases hz
        | some y =>
          rw [hn] at hz
          cases hz
          have := q2 j y hj hn
          simpa [eqV] using this
      · exact h2 _ H2 F2 (Le.refl _) m2 rfl
  have hl : End X.K X.mg (WE W σ) μ (RpL X.K μ) F1 (evL call [a'] ρ S1) (fun xs H2 => rIndex X.K (.ref p) xs H2 Q) := by
    rw [evL_one]
    cases ev : evE call a' ρ S1 with
    | bad => rw [ev] at key; exact key
    | exc e S2 => rw [ev] at key; exact key
    | ok v S2 =>
      rw [ev] at key
      intro bs H2 F2 l2 m2 r2
      obtain ⟨b, rest, rfl, r3, r4⟩ := r2
      cases r4
      exact key b H2 F2 l2 m2 r3
  exact ⟨.inl ⟨rfl, _, .of (m1.sub _ _ p1)⟩, ρ, S1, F1, μ, ml.mono l1, m1, hl⟩
/-- xs.count(k), ints -/
theorem snd_cnt (g : Gd ci call kl st W sc X) {o a : Expr} {o' a' : DE} {nm : Str} {apos cpos : Pos} (ho : PE X o (rdE X W (evE call o'))) (ha : SndL X W call [a] [a']) (hnm : nm = "count") (hline : (apos.endLine == cpos.line) = true) (hN : isNameE o = true) :
    PE X (.Call (.Attribute o nm apos) [a] [] cpos) (rdE X W (evE call (.cnt o' a'))) := by
  subst hnm
  have hst := ha.star (env := X.env)
  have hpe : PE X (.Call (.Attribute o "count" apos) [a] [] cpos) (tBM X.K "list" (rCntI X.K) (rdE X W (evE call o')) (rdL X W (evL call [a']))) :=
    pe_bm PySem.F.plainAttrs_list PySem.F.slot_list_count PySem.F.type_list_count mt_lcount ho ha.pa (by cases o <;> first | rfl | cases hN)
      (by rw [hst]; rfl) hline (by rw [hst]; rfl) rfl
  refine PE.imp hpe fun σ H Q hq => ?_
  obtain ⟨ρ, S, F, μ, ml, mh, hh⟩ := hq
  have hh : End X.K X.mg (WE W σ) μ (RpE X.K μ) F ((evE call o' ρ S).bind fun x S1 => match x with
    | .p (.lst xs) => (match intsOf xs with
      | some ns => (evE call a' ρ S1).bind fun y S2 => (match y with
        | .p (.int k) => .ok (.p (.int ((ns.count k : Nat) : Int))) S2
        | _ => .bad)
      | none => .bad)
    | _ => .bad) Q := hh
  refine ⟨ρ, S, F, μ, ml, mh, hh.split fun x S1 xv H1 F1 _ l1 m1 r1 h1 => ?_⟩
  split at h1
  rotate_left
  · exact (show False from h1).elim
  rename_i xs
  split at h1
  rotate_left
  · exact (show False from h1).elim
  rename_i ns hi
  obtain ⟨p, vs, rfl, p1, p2⟩ := r1
  have ev := p2.ints hi
  subst ev
  have key : End X.K X.mg (WE W σ) μ (RpE X.K μ) F1 (evE call a' ρ S1) (fun b H2 => rCntI X.K (.ref p) [b] H2 Q) := by
    refine h1.split fun v S2 b H2 F2 _ l2 m2 r2 h2 => ?_
    split at h2
    rotate_left
    · exact (show False from h2).elim
    rename_i k _
    cases (show b = .int k from r2)
    exact ⟨p, ns, k, rfl, rfl, .of (m2.sub _ _ (l2 _ _ p1)), h2 _ H2 F2 (Le.refl _) m2 rfl⟩
  have hl : End X.K X.mg (WE W σ) μ (RpL X.K μ) F1 (evL call [a'] ρ S1) (fun xs H2 => rCntI X.K (.ref p) xs H2 Q) := by
    rw [evL_one]
    cases ev : evE call a' ρ S1 with
    | bad => rw [ev] at key; exact key
    | exc e S2 => rw [ev] at key; exact key
    | ok v S2 =>
      rw [ev] at key
      intro bs H2 F2 l2 m2 r2
      obtain ⟨b, rest, rfl, r3, r4⟩ := r2
      cases r4
      exact key b H2 F2 l2 m2 r3
  exact ⟨.inl ⟨rfl, _, .of (m1.sub _ _ p1)⟩, ρ, S1, F1, μ, ml.mono l1, m1, hl⟩
/-- {} -/
theorem snd_dnew {pos : Pos} : PE X (.Dict [] [] pos) (rdF X W (evE call .dnew)) := PE.imp pe_dnewK fun σ H Q hq => by
  obtain ⟨ρ, S, F, μ, ml, mh, hh⟩ := hq
  intro p hp
  exact (show ∀ b H' F', Le F F' → Mh X.K H' S F' μ → RepF X.K μ F' H' (.p (.dct [] [])) b → Q b H' from hh) _ _ F (Le.refl F) (mh.grow hp) ⟨p, [], rfl, upd_same, mh.noneF hp, mh.notin hp, mh.noneP hp, rfl, rfl⟩
theorem evE_lcv {elt : DE} {tg : DT} {i : Nat} {ifs : List DE} {own : List Nat} {ρ : Loc} {S : Store} : evE call (.lcv elt tg i ifs own) ρ S = (match lget ρ i with
    | some (.c j) => (match S[j]? with
      | some (.dct _ vs) => (match lcL (lcTurn call elt tg ifs own (pureρ ρ)) [] vs [] with
        | .ok r _ => if r.length ≤ sizeLine then .ok (.p (.lst r)) S else .bad
        | _ => .bad)
      | _ => .bad)
    | _ => .bad) := by
  simp only [evE]
  rfl
theorem lget_pure {ρ : Loc} {i : Nat} {v : Sv} (h : (pureρ ρ)[i]? = some (some v)) : ∃ d, v = .p d ∧ ρ[i]? = some (some (.p d)) := by
  unfold pureρ at h
  rw [List.getElem?_map] at h
  cases e : ρ[i]? with
  | none => rw [e] at h; cases h
  | some o =>
    rw [e] at h
    cases o with
    | none => cases h
    | some w =>
      cases w with
      | c j => cases h
      | p d => cases h; exact ⟨d, rfl, rfl⟩
theorem Ml.pure {σ : L2.St} {ρ : Loc} {F : Hp} {μ μ0 : Fp} {K : PySem.W.Frag} (m : Ml K σ ρ F μ) : Ml K σ (pureρ ρ) F μ0 := by
  refine ⟨by unfold pureρ; rw [List.length_map]; exact m.len, fun i v e => ?_⟩
  obtain ⟨d, rfl, h⟩ := lget_pure e
  exact m.loc i _ h
/-- what is tracked and not frozen -/
def hideP (F H : Hp) : Hp := fun b => match F b with
  | none => H b
  | some _ => none
theorem hideP_some {F H : Hp} {b : Addr} {o : HO} (h : hideP F H b = some o) : F b = none ∧ H b = some o := by
  unfold hideP at h
  split at h
  · rename_i e; exact ⟨e, h⟩
  · cases h
theorem hideP_of {F H : Hp} {b : Addr} {o : HO} (h : F b = none) (e : H b = some o) : hideP F H b = some o := by
  unfold hideP
  rw [h]; exact e
theorem Mh.hide {K : PySem.W.Frag} {H : Hp} {F : Hp} (l : Le F H) : Mh K H [] F ⟨[], hideP F H⟩ :=
  ⟨l, rfl, fun i a c e _ => by simp at e, List.nodup_nil, fun a ha => by simp at ha, fun a u e => (hideP_some e).2, fun a u e => ⟨(hideP_some e).1, by simp⟩⟩
theorem isIt_vals {K : PySem.W.Frag} {F : Hp} {μ : Fp} {d : Addr} {o : Obj} {kvs : List (L2.Key × V)} {vs : List D} (hP : μ.P d = some (.frz o (.dK kvs))) (r : Reps K F vs (kvs.map (·.2))) : ItIsP K F μ vs [] (Itd d o kvs) := by
  intro i H' S' F' μ' l pr lp m' hw
  have h1 := m'.gd _ _ (lp _ _ hP)
  have hl := r.length
  rw [List.length_map] at hl
  refine ⟨fun e he => ?_, fun hi => ⟨h1, by omega⟩⟩
  obtain ⟨x, g1, g2⟩ := r.get he
  have hlt := (List.getElem?_eq_some_iff.mp he).1
  refine ⟨⟨h1, by omega⟩, fun y H'' hy => ?_⟩
  obtain ⟨rfl, k, hk⟩ := hy
  rw [List.getElem?_map, hk] at g1
  cases g1
  exact ⟨F', Le.refl _, m', g2.mono l⟩
theorem valsOf_pe (g : Gd ci call kl st W sc X) {iter : Expr} {i : Nat} (h : valsOf ci sc iter = some i) :
    ∃ x px apos cpos, iter = .Call (.Attribute (.Name x px) "values" apos) [] [] cpos ∧ (apos.endLine == cpos.line) = true ∧ PE X (.Name x px) (fun σ H Q => ∃ v, σ[i]? = some (some v) ∧ Q v H) := by
  unfold valsOf at h
  split at h
  rotate_left
  · cases h
  rename_i x px nm apos cpos
  split at h
  rotate_left
  · cases h
  rename_i hc
  obtain ⟨rfl, hl⟩ := hc
  split at h
  rotate_left
  · cases h
  rename_i i' hn
  cases h
  refine ⟨x, px, apos, cpos, rfl, hl, ?_⟩
  unfold CI.nm at hn
  split at hn
  · cases hn
  · rename_i hd
    have hd1 : (x == ("__debug__" : Str)) = false := by
      cases q : (x == ("__debug__" : Str)) with
      | false => rfl
      | true => exact absurd (.inl q) hd
    have hd2 : (x == ("__classdict__" : Str)) = false := by
      cases q : (x == ("__classdict__" : Str)) with
      | false => rfl
      | true => exact absurd (.inr q) hd
    have fin : (ixOf ci.N x).map DE.var = some (.var i) → Vis X.env.scope x → PE X (.Name x px) (fun σ H Q => ∃ v, σ[i]? = some (some v) ∧ Q v H) := fun q hv => by
      simp only [Option.map_eq_some_iff] at q
      obtain ⟨i2, hi, e⟩ := q
      cases e
      exact pe_var (i := i) (by rw [g.N]; exact ixOf_get hi) hv hd1 hd2
    split at hn
    · rename_i q; exact fin hn (.inl (by rw [g.sc]; exact q))
    · rename_i q; exact fin hn (.inr (.inl (by rw [g.sc]; exact q)))
    · rename_i q; exact fin hn (.inr (.inr (by rw [g.sc]; exact q)))
    · simp only [Option.map_eq_some_iff] at hn
      obtain ⟨_, _, e⟩ := hn
      cases e
    · cases hn
/-- [elt for tg in x.values() if ..] -/
theorem snd_lcv (g : Gd ci call kl st W sc X) {elt tg : Expr} {x : Str} {px apos cpos : Pos} {ifs : List Expr} {scope : Scope} {own : List (Str × Nat)} {pos : Pos} {ifs' : List DE} {elt' : DE} {tg' : DT} {i : Nat}
    (ok : BlkOk X.N X.env.scope scope own) (hslots : ∀ i ∈ tg'.slots, i ∈ own.map (·.2)) (hx : PE X (.Name x px) (fun σ H Q => ∃ v, σ[i]? = some (some v) ∧ Q v H)) (hline : (apos.endLine == cpos.line) = true)
    (hg : ∀ (s : Shared) (H : Hp) (C : Addr) (cl : List (Str × Addr)) (fp : List Addr), PG (X.blk s H scope (compEnvC scope cl C X.env) fp) tg (rdG X tg'))
    (ht : ∀ (s : Shared) (H : Hp) (C : Addr) (cl : List (Str × Addr)) (fp : List Addr), PTs (X.blk s H scope (compEnvC scope cl C X.env) fp) ifs (rdT X (fun _ _ _ _ => False) (evTs call ifs')))
    (he : ∀ (s : Shared) (H : Hp) (C : Addr) (cl : List (Str × Addr)) (fp : List Addr), PE (X.blk s H scope (compEnvC scope cl C X.env) fp) elt (rdE X (fun _ _ _ _ => False) (evE call elt'))) :
    PE X (.ListComp elt [⟨tg, .Call (.Attribute (.Name x px) "values" apos) [] [] cpos, ifs, 0⟩] scope pos) (rdF X W (evE call (.lcv elt' tg' i ifs' (own.map (·.2))))) := by
  refine PE.imp (pe_lock (pe_lc g.calm g.nd (pi_values hx (hline := hline)) ok hg ht he fun _ => rfl)) fun σ H Q hq => ?_
  obtain ⟨ρ, S, F, μ, ml, mh, hh⟩ := hq
  rw [evE_lcv] at hh
  split at hh
  rotate_left
  · exact (show False from hh).elim
  rename_i j hj
  split at hh
  rotate_left
  · exact (show False from hh).elim
  rename_i ks vs hS
  obtain ⟨xv, hσ, a, ha, rfl⟩ := ml.get hj
  obtain ⟨kvs, q1, q2, q3⟩ := mh.cell j a _ ha hS
  have hmem : a ∈ μ.cs := List.mem_iff_getElem?.mpr ⟨j, ha⟩
  have hFa := mh.off a hmem
  refine ⟨a, .dK kvs, q1, trivial, fun od => ?_⟩
  have lF : Le F (upd H a (.frz od (.dK kvs))) := fun b u e => by rw [upd_ne (fun z => by rw [z, hFa] at e; cases e)]; exact mh.sub b u e
  have m0 : Mh X.K (upd H a (.frz od (.dK kvs))) [] F ⟨[], hideP F (upd H a (.frz od (.dK kvs)))⟩ := Mh.hide lF
  generalize hP : hideP F (upd H a (.frz od (.dK kvs))) = P0 at m0
  have P0of : ∀ {b : Addr} {o : HO}, F b = none → upd H a (.frz od (.dK kvs)) b = some o → P0 b = some o := fun {b o} h e => hP ▸ hideP_of h e
  have P0a : P0 a = some (.frz od (.dK kvs)) := P0of hFa upd_same
  have ml0 : Ml X.K σ (pureρ ρ) F ⟨[], P0⟩ := ml.pure
  refine ⟨.ref a, hσ, a, od, kvs, rfl, upd_same, fun D hD => ?_⟩
  generalize hT : lcTurn call elt' tg' ifs' (own.map (·.2)) (pureρ ρ) = turn at hh
  rcases lcL_ok (f := turn) (Wt := []) (ds := vs) (S := []) with ⟨Rs, S2, hL⟩ | hL
  rotate_left
  · rw [hL] at hh; exact (show False from hh).elim
  rw [hL] at hh
  dsimp only at hh
  by_cases hz : Rs.length ≤ sizeLine
  rotate_left
  · rw [if_neg hz] at hh; exact (show False from hh).elim
  rw [if_pos hz] at hh
  have hDa : D ≠ a := fun z => by rw [z, upd_same] at hD; cases hD
  rw [upd_ne hDa] at hD
  have hcs : ∀ c ∈ μ.cs, ∃ o, upd H a (.frz od (.dK kvs)) c = some o ∧ P0 c = some o := fun c hc => by
    by_cases hca : c = a
    · subst hca; exact ⟨_, upd_same, P0a⟩
    · obtain ⟨o, ho⟩ := mh.there hc
      have e : upd H a (.frz od (.dK kvs)) c = some o := by rw [upd_ne hca]; exact ho
      exact ⟨o, e, P0of (mh.off c hc) e⟩
  refine lc_loop (σ := σ) (μ := ⟨[], P0⟩) (Q := fun v H' => H' a = some (.frz od (.dK kvs)) ∧ Q v (upd H' a (.dK kvs))) (W0 := fun _ _ _ _ => False) hslots hT ml0 m0 (isIt_vals P0a q3) hL hz D (by rw [upd_ne hDa]; exact hD) fun b Hc F' l mc _ hFD rF hb => ?_
  subst hb
  have hPoff : ∀ {b : Addr} {o : HO}, P0 b = some o → F' b = none ∧ Hc b = some o := fun {b o} e => ⟨(mc.gf b o e).1, mc.gd b o e⟩
  refine ⟨(hPoff P0a).2, ?_⟩
  obtain ⟨D', ws, eD, w1, w2, w3, w4, w5⟩ := rF
  cases eD
  have mfin : Mh X.K (upd Hc a (.dK kvs)) S F' μ := by
    refine ⟨fun b u e => ?_, mh.mlen, fun i2 c cc e1 e2 => ?_, mh.nd, fun c hc => ?_, fun b u e => ?_, fun b u e => ?_⟩
    · rw [upd_ne (fun z => by rw [z, (hPoff P0a).1] at e; cases e)]; exact mc.sub b u e
    · by_cases hca : c = a
      · subst hca
        obtain ⟨g1, k1⟩ := List.getElem?_eq_some_iff.mp e1
        obtain ⟨g2, k2⟩ := List.getElem?_eq_some_iff.mp ha
        have : i2 = j := (List.getElem_inj mh.nd).mp (k1.trans k2.symm)
        subst this
        rw [hS] at e2
        cases e2
        exact ⟨kvs, upd_same, q2, q3.mono l⟩
      · have q := mh.cell i2 c cc e1 e2
        have hmc : c ∈ μ.cs := List.mem_iff_getElem?.mpr ⟨i2, e1⟩
        obtain ⟨o, o1, o2⟩ := hcs c hmc
        refine q.keep l ?_
        rw [upd_ne hca, (hPoff o2).2, ← o1, upd_ne hca]
    · obtain ⟨o, o1, o2⟩ := hcs c hc
      exact (hPoff o2).1
    · obtain ⟨g1, g2⟩ := mh.gf b u e
      have hba : b ≠ a := fun z => g2 (z ▸ hmem)
      rw [upd_ne hba]
      exact (hPoff (P0of g1 (by rw [upd_ne hba]; exact mh.gd b u e))).2
    · obtain ⟨g1, g2⟩ := mh.gf b u e
      have hba : b ≠ a := fun z => g2 (z ▸ hmem)
      exact ⟨(hPoff (P0of g1 (by rw [upd_ne hba]; exact mh.gd b u e))).1, g2⟩
  refine (show ∀ b H' F', Le F F' → Mh X.K H' S F' μ → RepF X.K μ F' H' (.p (.lst Rs)) b → Q b H' from hh) (.ref D) _ F' l mfin ⟨D, ws, rfl, by rw [upd_ne hDa]; exact w1, w2, fun hc => ?_, mh.noneP hD, w5⟩
  obtain ⟨o, ho⟩ := mh.there hc
  rw [hD] at ho; cases ho
theorem rgV_rep {K : PySem.W.Frag} {F : Hp} {a b : Int} : Reps K F (rngD a (b - a).toNat) (rgV a b) := by
  have e1 : rngD a (b - a).toNat = ((List.range (b - a).toNat).map fun i => a + (i : Nat)).map D.int := by unfold rngD; rw [List.map_map]; rfl
  have e2 : rgV a b = ((List.range (b - a).toNat).map fun i => a + (i : Nat)).map V.int := by unfold rgV; rw [List.map_map]; rfl
  rw [e1, e2]
  exact Reps.ofInts _
theorem setArg_of {f : Str} {args : List Expr} {a : Expr} (h : setArg ci sc f args = some a) :
    ∃ p2 q2, args = [.Call (.Name "set" p2) [a] [] q2] ∧ f = "sorted" ∧ isGlob sc "set" = true ∧ ("set" : Str) ∈ ci.bis := by
  unfold setArg at h
  split at h
  · rename_i g p2 e q2
    split at h
    · rename_i hc
      obtain ⟨h1, rfl, h3, h4⟩ := hc
      cases h
      exact ⟨p2, q2, rfl, h1, h3, h4⟩
    · cases h
  · cases h
theorem rangeArg_of {f : Str} {args as : List Expr} {tp : Bool} (h : rangeArg ci sc f args = some (tp, as)) :
    ∃ q pos, args = [.Call (.Name "range" q) as [] pos] ∧ ((f = "list" ∧ tp = false) ∨ (f = "tuple" ∧ tp = true)) ∧ isGlob sc "range" = true ∧ ("range" : Str) ∈ ci.bis ∧ (as.length = 1 ∨ as.length = 2) := by
  unfold rangeArg at h
  split at h
  · rename_i g q as' pos
    split at h
    · rename_i hc
      obtain ⟨h1, rfl, h3, h4, h5⟩ := hc
      cases h
      refine ⟨q, pos, rfl, ?_, h3, h4, h5⟩
      rcases h1 with rfl | rfl
      · exact .inl ⟨rfl, by decide⟩
      · exact .inr ⟨rfl, by decide⟩
    · cases h
  · cases h
theorem snd_lrg (g : Gd ci call kl st W sc X) {f : Str} {as : List Expr} {es : List DE} {tp : Bool} {p q pos pos' : Pos} (hf : (f = "list" ∧ tp = false) ∨ (f = "tuple" ∧ tp = true)) (hg : isGlob sc f = true) (hm : f ∈ ci.bis) (hg2 : isGlob sc "range" = true) (hm2 : ("range" : Str) ∈ ci.bis)
    (hl : as.length = 1 ∨ as.length = 2) (h : SndL X W call as es) : PE X (.Call (.Name f p) [.Call (.Name "range" q) as [] pos'] [] pos) (rdF X W (evE call (.lrg tp es))) := by
  obtain ⟨g1, g2⟩ := isGlob_gl g hg
  obtain ⟨g3, g4⟩ := isGlob_gl g hg2
  have b1 := g.bis f hm
  have b2 := g.bis _ hm2
  have key : ∀ {te : L2.St → Hp → (Int → Int → Hp → Prop) → Prop}, PRg X (.Call (.Name "range" q) as [] pos') te →
      (∀ σ H (Q : VK), rdF X W (evE call (.lrg tp es)) σ H Q → te σ H fun a b H1 => RgOk a b ∧ ∀ l, H1 l = none → Q (.ref l) (upd H1 l (if tp = true then .tup (rgV a b) else .lst (rgV a b)))) →
      PE X (.Call (.Name f p) [.Call (.Name "range" q) as [] pos'] [] pos) (rdF X W (evE call (.lrg tp es))) := fun {te} hp hq => by
    rcases hf with ⟨rfl, rfl⟩ | ⟨rfl, rfl⟩
    · exact PE.imp (pe_listRg g.calm g1 b1 hp (by rfl)) hq
    · exact PE.imp (pe_tupRg g.calm g1 b1 hp (by rfl)) hq
  have fin : ∀ {σ : L2.St} {vs : List Sv} {S : Store} {F : Hp} {μ : Fp} {H1 : Hp} {Q : VK} {a b : Int}, rgOf vs = some (a, b) → Mh X.K H1 S F μ →
      End X.K X.mg (WE W σ) μ (RpF X.K μ) F (match rgOf vs with
        | some (a, b) => if rgOK a b then .ok (.p (if tp = true then .tup (rngD a (b - a).toNat) else .lst (rngD a (b - a).toNat))) S else .bad
        | none => .bad) Q → RgOk a b ∧ ∀ l, H1 l = none → Q (.ref l) (upd H1 l (if tp = true then .tup (rgV a b) else .lst (rgV a b))) := fun {σ vs S F μ H1 Q a b} hr m hq => by
    rw [hr] at hq
    dsimp only at hq
    split at hq
    · rename_i hc
      refine ⟨⟨hc.1.1, hc.1.2, hc.2.1.1, hc.2.1.2, hc.2.2⟩, fun l hl => ?_⟩
      cases tp with
      | false => exact K1.lst hq m rgV_rep l hl
      | true => exact K1.tup hq m rgV_rep l hl
    · exact (show False from hq).elim
  match as, h, hl with
  | [a], h, _ =>
    cases h with
    | @cons _ _ a' _ ns h1 t =>
      cases t
      refine key (prg_1 g3 b2 h1 (by cases a <;> first | rfl | exact absurd rfl (ns _ _))) fun σ H Q hq => ?_
      obtain ⟨ρ, S, F, μ, ml, mh, hh⟩ := hq
      have hh : End X.K X.mg (WE W σ) μ (RpF X.K μ) F ((evL call [a'] ρ S).bind fun vs S1 => match rgOf vs with
        | some (a, b) => if rgOK a b then .ok (.p (if tp = true then .tup (rngD a (b - a).toNat) else .lst (rngD a (b - a).toNat))) S1 else .bad
        | none => .bad) Q := hh
      rw [evL_one] at hh
      refine ⟨ρ, S, F, μ, ml, mh, ?_⟩
      cases ev : evE call a' ρ S with
      | bad => rw [ev] at hh; exact hh
      | exc e S2 => rw [ev] at hh; exact hh
      | ok v S1 =>
        rw [ev] at hh
        intro x H1 F1 l1 m1 r1
        have hh := End.mono hh l1
        simp only [R.bind_ok] at hh
        cases hr : rgOf [v] with
        | none => rw [hr] at hh; exact (show False from hh).elim
        | some ab =>
          obtain ⟨i, j⟩ := ab
          have hv : v = .p (.int j) ∧ i = 0 := by
            unfold rgOf at hr
            split at hr
            · rename_i q; cases q; cases hr; exact ⟨rfl, rfl⟩
            · rename_i q; cases q
            · cases hr
          obtain ⟨rfl, rfl⟩ := hv
          exact ⟨j, r1, fin hr m1 hh⟩
  | [a, b], h, _ =>
    cases h with
    | @cons _ _ a' _ ns h1 t =>
      cases t with
      | @cons _ _ b' _ ns2 h2 t =>
        cases t
        have sb : starEach [b] X.env = (false, eval b X.env) :: starEach [] X.env := by cases b <;> first | rfl | exact absurd rfl (ns2 _ _)
        refine key (prg_2 g3 b2 h1 h2 (by cases a <;> first | rfl | exact absurd rfl (ns _ _)) sb (by rw [sb]; rfl)) fun σ H Q hq => ?_
        obtain ⟨ρ, S, F, μ, ml, mh, hh⟩ := hq
        have hh : End X.K X.mg (WE W σ) μ (RpF X.K μ) F ((evL call [a', b'] ρ S).bind fun vs S1 => match rgOf vs with
          | some (a, b) => if rgOK a b then .ok (.p (if tp = true then .tup (rngD a (b - a).toNat) else .lst (rngD a (b - a).toNat))) S1 else .bad
          | none => .bad) Q := hh
        have e1 : evL call [a', b'] ρ S = (evE call a' ρ S).bind fun v S1 => (evE call b' ρ S1).bind fun w S2 => .ok [v, w] S2 := by
          simp only [evL]
          cases evE call a' ρ S with
          | bad => rfl
          | exc _ _ => rfl
          | ok v S1 => simp only [R.bind_ok]; cases evE call b' ρ S1 <;> rfl
        rw [e1] at hh
        refine ⟨ρ, S, F, μ, ml, mh, ?_⟩
        cases ev : evE call a' ρ S with
        | bad => rw [ev] at hh; exact hh
        | exc e S2 => rw [ev] at hh; exact hh
        | ok v S1 =>
          rw [ev] at hh
          intro x H1 F1 l1 m1 r1
          have hh := End.mono hh l1
          simp only [R.bind_ok] at hh
          refine ⟨ρ, S1, F1, μ, ml.mono l1, m1, ?_⟩
          cases ev2 : evE call b' ρ S1 with
          | bad => rw [ev2] at hh; exact hh
          | exc e S2 => rw [ev2] at hh; exact hh
          | ok w S2 =>
            rw [ev2] at hh
            intro y H2 F2 l2 m2 r2
            have hh := End.mono hh l2
            simp only [R.bind_ok] at hh
            cases hr : rgOf [v, w] with
            | none => rw [hr] at hh; exact (show False from hh).elim
            | some ab =>
              obtain ⟨i, j⟩ := ab
              have hv : v = .p (.int i) ∧ w = .p (.int j) := by
                unfold rgOf at hr
                split at hr
                · rename_i q; cases q
                · rename_i q; cases q; cases hr; exact ⟨rfl, rfl⟩
                · cases hr
              obtain ⟨rfl, rfl⟩ := hv
              exact ⟨i, j, r1, r2, fin hr m2 hh⟩
theorem snd_E : ∀ (n : Nat) (sc : Scope) (st : Str → Bool) (W : WX) (X : Cx), Gd ci call kl st W sc X → ∀ (e : Expr) (e' : DE), compE ci n sc e = some e' →
    PE X e (rd (frsh e') X W (evE call e')) ∧ PT X e (rdT X W (evT call e'))
  | 0, _, _, _, _, _, _, _, h => by cases h
  | n + 1, sc, st, W, X, g, e, e', h => by
    have ih : ∀ {e : Expr} {e' : DE}, compE ci n sc e = some e' → PE X e (rdE X W (evE call e')) := fun {e e'} h => PE.frz (snd_E n sc st W X g e e' h).1
    have ihT : ∀ {e : Expr} {e' : DE}, compE ci n sc e = some e' → PT X e (rdT X W (evT call e')) := fun {e e'} h => (snd_E n sc st W X g e e' h).2
    have bad : ∀ {e : Expr} {e' : DE}, (∀ ρ S, evT call e' ρ S = .bad) → PT X e (rdT X W (evT call e')) := fun {e e'} hb => ⟨fun pins s σ H Q I hq => by
      obtain ⟨ρ, S, F, μ, ml, mh, hh⟩ := hq
      rw [hb] at hh
      exact (show False from hh).elim⟩
    cases e with
    | Name x pos =>
      have k := snd_name g (pos := pos) (show ci.nm sc x = some e' from h)
      have hf : frsh e' = false ∧ plainT e' = true := by
        have h' : ci.nm sc x = some e' := h
        unfold CI.nm at h'
        split at h'
        · cases h'
        · split at h' <;> first | (cases h'; done) | (simp only [Option.map_eq_some_iff] at h'; obtain ⟨_, _, rfl⟩ := h'; exact ⟨rfl, rfl⟩)
      rw [hf.1]
      exact ⟨k, snd_truth hf.2 k (by intro _; rfl)⟩
    | Constant c k pos =>
      have fin : ∀ {d : D}, PE X (.Constant c k pos) (rdE X W (evE call (.con d))) → PE X (.Constant c k pos) (rd (frsh (.con d)) X W (evE call (.con d))) ∧ PT X (.Constant c k pos) (rdT X W (evT call (.con d))) := fun {d} hp => ⟨hp, snd_truth rfl hp (by intro _; rfl)⟩
      have cst : ∀ {d : D} {v : V}, PE X (.Constant c k pos) (tC v) → (∀ F, Rep X.K F d v) → PE X (.Constant c k pos) (rdE X W (evE call (.con d))) := fun {d v} hp hr => PE.imp hp fun σ H Q hq => by
        obtain ⟨ρ, S, F, μ, ml, mh, hh⟩ := hq
        exact (show ∀ b H' F', _ → _ → _ → Q b H' from hh) v H F (Le.refl _) mh (hr F)
      simp only [compE] at h
      split at h
      · cases h; exact fin (cst pe_int fun _ => rfl)
      · cases h; exact fin (cst pe_bl fun _ => rfl)
      · cases h; exact fin (cst pe_non fun _ => rfl)
      · cases h; exact fin (cst pe_str fun _ => rfl)
      · cases h
    | BinOp a op b pos =>
      simp only [compE, Option.bind_eq_some_iff, Option.map_eq_some_iff] at h
      obtain ⟨a', ha, b', hb, rfl⟩ := h
      have k := snd_bin g (op := op) (pos := pos) (ih ha) (ih hb)
      exact ⟨k, snd_truth rfl (PE.frz k) (by intro _; rfl)⟩
    | UnaryOp op a pos =>
      simp only [compE] at h
      split at h
      · simp only [Option.map_eq_some_iff] at h
        obtain ⟨a', ha, rfl⟩ := h
        exact ⟨snd_neg g (ih ha), bad fun _ _ => rfl⟩
      · simp only [Option.map_eq_some_iff] at h
        obtain ⟨a', ha, rfl⟩ := h
        exact ⟨snd_notV g (ih ha), snd_notT g (ihT ha)⟩
      · cases h
    | Compare a ops cs pos =>
      simp only [compE] at h
      split at h
      · split at h
        · cases h
        · rename_i hm
          simp only [Option.bind_eq_some_iff, Option.map_eq_some_iff] at h
          obtain ⟨a', ha, b', hb, rfl⟩ := h
          exact snd_cmp g (by simpa using hm) (ih ha) (ih hb)
      · split at h
        · cases h
        · rename_i hm
          simp only [Option.bind_eq_some_iff, Option.map_eq_some_iff] at h
          obtain ⟨a', ha, b', hb, c', hc, rfl⟩ := h
          exact snd_chain g (by simpa using hm) (ih ha) (ih hb) (ih hc)
      · cases h
    | BoolOp op vs pos =>
      simp only [compE, Option.bind_eq_some_iff] at h
      obtain ⟨vs', h1, h2⟩ := h
      have all : ∀ {es : List Expr} {es' : List DE}, optAll (compE ci n sc) es = some es' → SndB X W call es es' := by
        intro es
        induction es with
        | nil => intro es' q; cases q; exact .nil
        | cons e es ihl =>
          intro es' q
          obtain ⟨b, r, q1, q2, rfl⟩ := optAll_cons q
          exact .cons (ih q1) (ihT q1) (ihl q2)
      have hB := all h1
      have kV := snd_boolsV (pos := pos) hB h2
      have kT := (snd_boolsT (pos := pos) hB h2).pt
      rcases bools_frsh h2 with hf | ⟨a', rfl⟩
      · rw [hf]; exact ⟨kV, kT⟩
      · cases vs with
        | nil => cases h1
        | cons e es =>
          obtain ⟨b, r, q1, q2, q3⟩ := optAll_cons h1
          cases q3
          cases es with
          | cons e2 es => obtain ⟨_, _, _, _, q4⟩ := optAll_cons q2; cases q4
          | nil =>
            cases h2
            exact ⟨pe_one (snd_E n sc st W X g e _ q1).1, kT⟩
    | IfExp c a b pos =>
      simp only [compE, Option.bind_eq_some_iff, Option.map_eq_some_iff] at h
      obtain ⟨c', hc, a', ha, b', hb, rfl⟩ := h
      exact ⟨snd_ife g (ihT hc) (ih ha) (ih hb), snd_ifT g (ihT hc) (ihT ha) (ihT hb)⟩
    | Tuple es k pos =>
      simp only [compE] at h
      split at h
      · rename_i hz
        simp only [Option.map_eq_some_iff] at h
        obtain ⟨es', h1, rfl⟩ := h
        exact ⟨snd_tup g (optAll_sndL ih h1) (Nat.le_of_lt (small1000 hz)), bad fun _ _ => rfl⟩
      · cases h
    | List es pos =>
      simp only [compE] at h
      split at h
      · rename_i hz
        simp only [Option.map_eq_some_iff] at h
        obtain ⟨es', h1, rfl⟩ := h
        exact ⟨snd_lst g (optAll_sndL ih h1) (Nat.le_of_lt (small1000 hz)), bad fun _ _ => rfl⟩
      · cases h
    | Subscript a i pos =>
      simp only [compE] at h
      split at h
      · rename_i lo hi p
        simp only [Option.bind_eq_some_iff, Option.map_eq_some_iff] at h
        obtain ⟨a', ha, lo', hlo, hi', hhi, rfl⟩ := h
        have pl : PO X lo (rdO X W (evO call lo')) := by
          cases lo with
          | none => cases hlo; exact snd_partN
          | some l =>
            simp only [Option.map_eq_some_iff] at hlo
            obtain ⟨l', hl, rfl⟩ := hlo
            exact snd_partS g (ih hl)
        have ph : PO X hi (rdO X W (evO call hi')) := by
          cases hi with
          | none => cases hhi; exact snd_partN
          | some l =>
            simp only [Option.map_eq_some_iff] at hhi
            obtain ⟨l', hl, rfl⟩ := hhi
            exact snd_partS g (ih hl)
        exact ⟨snd_slice g (ih ha) pl ph, bad fun _ _ => rfl⟩
      · split at h
        · rename_i hm
          subst hm
          simp only [Option.map_eq_some_iff] at h
          obtain ⟨a', ha, rfl⟩ := h
          exact ⟨snd_rev g (ih ha), bad fun _ _ => rfl⟩
        · cases h
      · rename_i hns hns2
        simp only [Option.bind_eq_some_iff, Option.map_eq_some_iff] at h
        obtain ⟨a', ha, i', hi, rfl⟩ := h
        have k := snd_ix g (pos := pos) (ih ha) (ih hi) (plainIx_of fun a b c p z => by rw [z, compE_slice] at hi; cases hi)
        exact ⟨k, snd_truth rfl k (by intro _; rfl)⟩
    | Call f args kws pos =>
      simp only [compE] at h
      split at h
      · rename_i f p
        split at h
        · rename_i hg
          split at h
          · rename_i ar fr hl
            split at h
            · rename_i hn
              simp only [Option.map_eq_some_iff] at h
              obtain ⟨es', h1, rfl⟩ := h
              have k := snd_call g (p := p) (pos := pos) hg hl hn (optAll_sndL ih h1)
              exact ⟨k, snd_truth rfl (PE.frz k) (by intro _; rfl)⟩
            · cases h
          · split at h
            · rename_i hb
              split at h
              · rename_i hf
                subst hf
                split at h
                · rename_i a T q
                  split at h
                  · rename_i hc
                    simp only [Option.bind_eq_some_iff, Option.map_eq_some_iff] at h
                    obtain ⟨t, ht, a', ha, rfl⟩ := h
                    have k := snd_isi g (p := p) (q := q) (pos := pos) hg hb hc.1 hc.2 ht (fun b p z => by rw [z, compE_star] at ha; cases ha) (ih ha)
                    exact ⟨k, snd_truth rfl k (by intro _; rfl)⟩
                  · cases h
                · cases h
              · split at h
                · rename_i tp as hra
                  simp only [Option.map_eq_some_iff] at h
                  obtain ⟨es', h1, rfl⟩ := h
                  obtain ⟨q, pos', rfl, hf, hg2, hm2, hl2⟩ := rangeArg_of hra
                  exact ⟨snd_lrg g hf hg hb hg2 hm2 hl2 (optAll_sndL ih h1), bad fun _ _ => rfl⟩
                split at h
                · rename_i a hsa
                  simp only [Option.map_eq_some_iff] at h
                  obtain ⟨a', ha, rfl⟩ := h
                  obtain ⟨p2, q2, rfl, rfl, hg2, hm2⟩ := setArg_of hsa
                  have k := snd_sset g (p := p) (p2 := p2) (q2 := q2) (pos := pos) hg hb hg2 hm2 (.cons (fun b p z => by rw [z, compE_star] at ha; cases ha) (ih ha) .nil)
                  exact ⟨k, snd_truth rfl (PE.frz (fr := true) k) (by intro _; rfl)⟩
                simp only [Option.bind_eq_some_iff] at h
                obtain ⟨b, hl, h⟩ := h
                split at h
                · rename_i hn
                  simp only [Option.map_eq_some_iff] at h
                  obtain ⟨es', h1, rfl⟩ := h
                  have k := snd_bi g (p := p) (pos := pos) hg hb hl hn (optAll_sndL ih h1)
                  exact ⟨k, snd_truth rfl (PE.frz k) (by intro _; rfl)⟩
                · cases h
            · split at h
              · rename_i hb
                simp only [Option.map_eq_some_iff] at h
                obtain ⟨es', h1, rfl⟩ := h
                have k := snd_gcd g (p := p) (pos := pos) hg hb.1 hb.2 (optAll_sndL ih h1)
                exact ⟨k, snd_truth rfl (PE.frz k) (by intro _; rfl)⟩
              · cases h
        · cases h
      · split at h
        · rename_i hc
          split at h
          · simp only [Option.bind_eq_some_iff, Option.map_eq_some_iff] at h
            obtain ⟨o', ho, a', ha, rfl⟩ := h
            exact ⟨snd_pop g (ih ho) (.cons (fun b p z => by rw [z, compE_star] at ha; cases ha) (ih ha) .nil) hc.1 hc.2.1 hc.2.2, bad fun _ _ => rfl⟩
          · cases h
        · split at h
          · rename_i hc
            split at h
            · simp only [Option.bind_eq_some_iff, Option.map_eq_some_iff] at h
              obtain ⟨o', ho, a', ha, rfl⟩ := h
              exact ⟨snd_idx g (ih ho) (.cons (fun b p z => by rw [z, compE_star] at ha; cases ha) (ih ha) .nil) hc.1 hc.2.1 hc.2.2, bad fun _ _ => rfl⟩
            · cases h
          · split at h
            · rename_i hc
              split at h
              · simp only [Option.bind_eq_some_iff, Option.map_eq_some_iff] at h
                obtain ⟨o', ho, a', ha, rfl⟩ := h
                exact ⟨snd_cnt g (ih ho) (.cons (fun b p z => by rw [z, compE_star] at ha; cases ha) (ih ha) .nil) hc.1 hc.2.1 hc.2.2, bad fun _ _ => rfl⟩
              · cases h
            · cases h
      · cases h
    | ListComp elt gens scope pos =>
      simp only [compE] at h
      split at h
      · rename_i tg iter ifs
        split at h
        · rename_i hblk
          simp only [Option.bind_eq_some_iff] at h
          obtain ⟨tg', htg, h⟩ := h
          split at h
          · rename_i hsl
            have ok : BlkOk X.N X.env.scope scope (ownOf ci.N scope) := by rw [g.N, g.sc]; exact blkOk_by hblk.1
            have hsl' : ∀ i ∈ tg'.slots, i ∈ (ownOf ci.N scope).map (·.2) := fun i hi => by
              have := List.all_eq_true.mp hsl i hi
              simpa using this
            have G' := fun (s : Shared) (H : Hp) (C : Addr) (cl : List (Str × Addr)) (fp : List Addr) => g.blk s H scope C cl fp
            have hptA : ∀ (ifs' : List DE), optAll (compE ci n (relS scope sc)) ifs = some ifs' → ∀ (s : Shared) (H : Hp) (C : Addr) (cl : List (Str × Addr)) (fp : List Addr), PTs (X.blk s H scope (compEnvC scope cl C X.env) fp) ifs (rdT (X.blk s H scope (compEnvC scope cl C X.env) fp) (fun _ _ _ _ => False) (evTs call ifs')) := fun ifs' hifs s H C cl fp => by
              match ifs, hifs, hblk.2 with
              | [], hifs, _ => cases hifs; exact snd_ptsN
              | [c], hifs, _ =>
                obtain ⟨b, r, q1, q2, rfl⟩ := optAll_cons hifs
                cases q2
                exact snd_pts1 (snd_E n _ _ _ _ (G' s H C cl fp) c b q1).2
              | _ :: _ :: _, _, hl => simp at hl
            split at h
            · rename_i vi hv
              simp only [Option.bind_eq_some_iff, Option.map_eq_some_iff] at h
              obtain ⟨ifs', hifs, elt', helt, rfl⟩ := h
              obtain ⟨vx, vpx, vap, vcp, rfl, vl, vp⟩ := valsOf_pe g hv
              exact ⟨snd_lcv g ok hsl' vp vl (fun s H C cl fp => snd_T (G' s H C cl fp) n htg) (hptA ifs' hifs) (fun s H C cl fp => PE.frz (snd_E n _ _ _ _ (G' s H C cl fp) elt elt' helt).1), bad fun _ _ => rfl⟩
            · simp only [Option.bind_eq_some_iff, Option.map_eq_some_iff] at h
              obtain ⟨args', hargs, ifs', hifs, elt', helt, rfl⟩ := h
              have hpt := hptA ifs' hifs
              have hi := snd_iter g (tg := tg) (iter := iter) (optAll_sndL ih hargs)
              have hns : ∀ es k p, iter ≠ .Set es k p := fun es k p z => by
                subst z
                have : optAll (compE ci n sc) [.Set es k p] = some args' := hargs
                obtain ⟨b, r, q1, _, _⟩ := optAll_cons this
                rw [compE_set] at q1; cases q1
              exact ⟨PE.imp (pe_lc g.calm g.nd hi ok (fun s H C cl fp => snd_T (G' s H C cl fp) n htg) hpt (fun s H C cl fp => PE.frz (snd_E n _ _ _ _ (G' s H C cl fp) elt elt' helt).1) (folded_of hns)) fun σ H Q hq => snd_lc g (pos := pos) ok hsl' hi (folded_of hns) (fun s H C cl fp => snd_T (G' s H C cl fp) n htg) hpt (fun s H C cl fp => PE.frz (snd_E n _ _ _ _ (G' s H C cl fp) elt elt' helt).1) hq, bad fun _ _ => rfl⟩
          · cases h
        · cases h
      · rename_i tg iter ifs tg1 iter1 ifs1
        split at h
        · rename_i hblk
          simp only [Option.bind_eq_some_iff] at h
          obtain ⟨tg', htg, tg1', htg1, h⟩ := h
          split at h
          · rename_i hsl
            simp only [Option.bind_eq_some_iff, Option.map_eq_some_iff] at h
            obtain ⟨args', hargs, ifs', hifs, args1', hargs1, ifs1', hifs1, elt', helt, rfl⟩ := h
            have ok : BlkOk X.N X.env.scope scope (ownOf ci.N scope) := by rw [g.N, g.sc]; exact blkOk_by hblk.1
            have hsl' : ∀ i ∈ tg'.slots, i ∈ (ownOf ci.N scope).map (·.2) := fun i hi => by
              have := List.all_eq_true.mp hsl.1 i hi
              simpa using this
            have hsl1' : ∀ i ∈ tg1'.slots, i ∈ (ownOf ci.N scope).map (·.2) := fun i hi => by
              have := List.all_eq_true.mp hsl.2 i hi
              simpa using this
            have G' := fun (s : Shared) (H : Hp) (C : Addr) (cl : List (Str × Addr)) (fp : List Addr) => g.blk s H scope C cl fp
            have hptA : ∀ (ifs : List Expr) (ifs' : List DE), ifs.length ≤ 1 → optAll (compE ci n (relS scope sc)) ifs = some ifs' → ∀ (s : Shared) (H : Hp) (C : Addr) (cl : List (Str × Addr)) (fp : List Addr), PTs (X.blk s H scope (compEnvC scope cl C X.env) fp) ifs (rdT (X.blk s H scope (compEnvC scope cl C X.env) fp) (fun _ _ _ _ => False) (evTs call ifs')) := fun ifs ifs' hl hifs s H C cl fp => by
              match ifs, hifs, hl with
              | [], hifs, _ => cases hifs; exact snd_ptsN
              | [c], hifs, _ =>
                obtain ⟨b, r, q1, q2, rfl⟩ := optAll_cons hifs
                cases q2
                exact snd_pts1 (snd_E n _ _ _ _ (G' s H C cl fp) c b q1).2
              | _ :: _ :: _, _, hl => simp at hl
            have hns : ∀ {sc0 : Scope} {it0 : Expr} {as0 : List DE} {tg0 : Expr}, optAll (compE ci n sc0) (iterK ci sc0 tg0 it0).2 = some as0 → ∀ es k p, it0 ≠ .Set es k p := fun {sc0 it0 as0 tg0} q es k p z => by
              subst z
              have : optAll (compE ci n sc0) [.Set es k p] = some as0 := q
              obtain ⟨b, r, q1, _, _⟩ := optAll_cons this
              rw [compE_set] at q1; cases q1
            have hi := snd_iter g (tg := tg) (iter := iter) (optAll_sndL ih hargs)
            have hi1 := fun (s : Shared) (H : Hp) (C : Addr) (cl : List (Str × Addr)) (fp : List Addr) => snd_iter (G' s H C cl fp) (tg := tg1) (iter := iter1) (optAll_sndL (fun {e e'} h => PE.frz (snd_E n _ _ _ _ (G' s H C cl fp) e e' h).1) hargs1)
            exact ⟨PE.imp (pe_lc2 g.calm g.nd hi ok hsl1' (fun s H C cl fp => snd_T (G' s H C cl fp) n htg) (hptA ifs ifs' hblk.2.1 hifs) hi1 (fun s H C cl fp => snd_T (G' s H C cl fp) n htg1) (hptA ifs1 ifs1' hblk.2.2 hifs1) (fun s H C cl fp => PE.frz (snd_E n _ _ _ _ (G' s H C cl fp) elt elt' helt).1) (folded_of (hns hargs)) (fun env x => folded_of (hns hargs1) x)) fun σ H Q hq => snd_lc2 hsl' hq, bad fun _ _ => rfl⟩
          · cases h
        · cases h
      · cases h
    | Dict ks vs pos =>
      cases ks with
      | cons => simp [compE] at h
      | nil =>
        cases vs with
        | cons => simp [compE] at h
        | nil =>
          cases (show some DE.dnew = some e' from h)
          exact ⟨snd_dnew, bad fun _ _ => rfl⟩
    | _ => simp [compE] at h
end
end DV

set_option Elab.async false
set_option linter.all false
set_option maxRecDepth 100000
set_option maxHeartbeats 4000000
/-! DV10: statements. -/
namespace DV
open PySem PySem.Spec PyProof.Rows L2

/-! ### from the text's statements to the intermediate form -/
def isStar : Expr → Bool
  | .Starred .. => true
  | _ => false
def nmAt (sc : Scope) (line : Nat) : Expr → Option Str
  | .Name id pos => if (sc.names.lookup id == some .local && pos.line == line) = true then some id else none
  | _ => none
/-- how a, b = x, y is stored: none: not known; some none: as a tuple; some names: name by name -/
def swapOf (sc : Scope) (ts vs : List Expr) : Option (Option (List Str)) :=
  if (!(ts.length == 2 || ts.length == 3) || vs.length != ts.length || sc.kind != .function) = true then none
  else if (vs.any isStar) = true then none
  else
    let names := ts.filterMap (nmAt sc ((ts.head?.map (·.pos.line)).getD 0))
    if (names.length != ts.length || names.eraseDups.length != names.length) = true then some none
    else if (vs.all (foldedForSure 8)) = true then some none
    else if (vs.all (constantsAlone 8)) = true then none
    else some (some names)
def isSlice : Expr → Bool
  | .Slice .. => true
  | _ => false
def isLC : Expr → Bool
  | .ListComp .. => true | .SetComp .. => true | .DictComp .. => true
  | _ => false
structure SI where
  marks : List Str
  fr : Bool
def anyCell : Str → Bool := fun _ => true
def nmOf (ci : CI) (sc : Scope) (x : Str) : Option Nat := if sc.names.lookup x = some .local ∨ sc.names.lookup x = some .cell then ixOf ci.N x else none
def locs (ci : CI) (sc : Scope) : List Expr → Option (List Nat) := optAll fun
  | .Name x _ => if sc.names.lookup x = some .local then ixOf ci.N x else none
  | _ => none
def isLcv : DE → Bool
  | .lcv .. => true
  | _ => false
def compS (ci : CI) (si : SI) : Nat → Scope → Stmt → Option DS
  | 0, _, _ => none
  | n + 1, sc, s => match s with
    | .Assign tgs e _ => (match tgs with
      | [tg] => (match tg with
        | .Name x _ => (nmOf ci sc x).bind fun i => (compE ci n sc e).bind fun e' => if isLcv e' = true then none else some (if x ∈ si.marks ∧ frsh e' = true then .new i e' else .asg (.name i) e')
        | .Tuple ts _ _ => (match e with
          | .Tuple vs _ _ => (match swapOf sc ts vs with
            | none => none
            | some none => (compT ci anyCell n sc tg).bind fun t => (compE ci n sc e).map fun e' => .asg t e'
            | some (some _) => (locs ci sc ts).bind fun is => if is.Nodup then (optAll (compE ci n sc) vs).map fun es => if (ts.any fun | .Name x _ => decide (x ∈ si.marks) | _ => false) = true then .parN is (ts.map fun | .Name x _ => decide (x ∈ si.marks) | _ => false) es else .par is es else none)
          | e => (compT ci anyCell n sc tg).bind fun t => (compE ci n sc e).map fun e' => .asg t e')
        | .Subscript a i _ => if isSlice i = true then none else (compE ci n sc e).bind fun e' => (compE ci n sc a).bind fun a' => (compE ci n sc i).map fun i' => .setix a' i' e'
        | _ => none)
      | _ => none)
    | .AugAssign tg op e _ => (match tg, op with
      | .Name x _, .Add => (nmOf ci sc x).bind fun i => (compE ci n sc e).map fun e' => .aug i .Add e'
      | .Name x _, .Sub => (nmOf ci sc x).bind fun i => (compE ci n sc e).map fun e' => .aug i .Sub e'
      | _, _ => none)
    | .Expr e pos => (match e with
      | .Call (.Attribute o nm apos) [a] [] cpos => if nm = "append" ∧ (apos.endLine == cpos.line) = true ∧ isNameE o = true then (compE ci n sc o).bind fun o' => (compE ci n sc a).map fun a' => .app o' a' else none
      | e => if isLC e = true then none else (compE ci n sc e).map .expr)
    | .Return e _ => (match e with
      | none => some .retN
      | some e => (compE ci n sc e).map fun e' => if si.fr = true then .retF e' else .ret e')
    | .If c a b _ => (compE ci n sc c).bind fun c' => (optAll (compS ci si n sc) a).bind fun a' => (optAll (compS ci si n sc) b).map fun b' => .ife c' a' b'
    | .For tg iter body orelse _ => (match orelse with
      | [] => (compT ci anyCell n sc tg).bind fun t => (optAll (compE ci n sc) (iterK ci sc tg iter).2).bind fun args => (optAll (compS ci si n sc) body).map fun b => .for t (iterK ci sc tg iter).1 args b
      | _ => none)
    | .While c body orelse _ => (match orelse with
      | [] => (compE ci n sc c).bind fun c' => (optAll (compS ci si n sc) body).map fun b => .while c' b
      | _ => none)
    | .Pass _ => some .pass
    | .Break _ => some .brk
    | .Continue _ => some .cont
    | .Raise _ _ _ => some .never
    | _ => none

/-! ### what is wanted behind a statement -/
def EndS (X : Cx) (W : WX) (fr : Bool) (μ : Fp) (F : Hp) (r : SR) (D : Ends) : Prop :=
  match r with
  | .nx ρ S => ∀ σ' H' F' μ', Le F F' → μ.pre μ' → μ'.P = μ.P → Ml X.K σ' ρ F' μ' → Mh X.K H' S F' μ' → D.nx σ' H'
  | .bk ρ S => ∀ σ' H' F' μ', Le F F' → μ.pre μ' → μ'.P = μ.P → Ml X.K σ' ρ F' μ' → Mh X.K H' S F' μ' → D.bk σ' H'
  | .ct ρ S => ∀ σ' H' F' μ', Le F F' → μ.pre μ' → μ'.P = μ.P → Ml X.K σ' ρ F' μ' → Mh X.K H' S F' μ' → D.ct σ' H'
  | .ret v S => ∀ b H' F' μ', Le F F' → μ.pre μ' → μ'.P = μ.P → Mh X.K H' S F' μ' → (if fr then RepF X.K μ' F' H' v b else RepS X.K F' μ' v b) → D.rt b H'
  | .exc e ρ S => ∀ σ' H' F' μ' cls d, Le F F' → μ.pre μ' → μ'.P = μ.P → Ml X.K σ' ρ F' μ' → Mh X.K H' S F' μ' → XcIs X.mg F' e cls d → W cls d σ' H'
  | .bad => False
def rdS (X : Cx) (W : WX) (fr : Bool) (m : Loc → Store → SR) : TS := fun D σ H => ∃ ρ S F μ, Ml X.K σ ρ F μ ∧ Mh X.K H S F μ ∧ EndS X W fr μ F (m ρ S) D
section
variable {X : Cx} {W : WX} {fr : Bool} {μ μ1 : Fp} {F G : Hp} {D D' : Ends}
theorem EndS.mono {r : SR} (h : EndS X W fr μ F r D) (l : Le F G) (p : μ.pre μ1) (e : μ1.P = μ.P) : EndS X W fr μ1 G r D := by
  cases r with
  | nx ρ S => exact fun σ' H' F' μ' l' p' e' => h σ' H' F' μ' (l.trans l') (p.trans p') (e'.trans e)
  | bk ρ S => exact fun σ' H' F' μ' l' p' e' => h σ' H' F' μ' (l.trans l') (p.trans p') (e'.trans e)
  | ct ρ S => exact fun σ' H' F' μ' l' p' e' => h σ' H' F' μ' (l.trans l') (p.trans p') (e'.trans e)
  | ret v S => exact fun b H' F' μ' l' p' e' => h b H' F' μ' (l.trans l') (p.trans p') (e'.trans e)
  | exc x ρ S => exact fun σ' H' F' μ' cls d l' p' e' => h σ' H' F' μ' cls d (l.trans l') (p.trans p') (e'.trans e)
  | bad => exact h
/-- behind an expression -/
theorem EndS.split {α β : Type} {RpA : Hp → Hp → α → β → Prop} {r : R α} {ρ : Loc} {f : α → Store → SR} {σ : L2.St} {Q' : β → Hp → Prop} (h : EndS X W fr μ F (r.st ρ f) D) (ml : Ml X.K σ ρ F μ)
    (k : ∀ a S' b H' F', r = .ok a S' → Le F F' → Mh X.K H' S' F' μ → RpA F' H' a b → EndS X W fr μ F' (f a S') D → Q' b H') : End X.K X.mg (WE W σ) μ RpA F r Q' := by
  cases r with
  | ok a S => exact fun b H' F' l m rp => k a S b H' F' rfl l m rp (h.mono l (Fp.pre.refl _) rfl)
  | exc e S => exact fun H' F' cls d l m x => h σ H' F' μ cls d l (Fp.pre.refl _) rfl (ml.mono l) m x
  | bad => exact h
theorem EndS.seq {r : SR} {f : Loc → Store → SR} (h : EndS X W fr μ F (r.seq f) D) (k : ∀ ρ' S' σ' H' F' μ', Le F F' → μ.pre μ' → μ'.P = μ.P → Ml X.K σ' ρ' F' μ' → Mh X.K H' S' F' μ' → EndS X W fr μ' F' (f ρ' S') D → D'.nx σ' H') (hr : D'.rt = D.rt) (hb : D'.bk = D.bk) (hc : D'.ct = D.ct) :
    EndS X W fr μ F r D' := by
  cases r with
  | nx ρ S => exact fun σ' H' F' μ' l p e ml mh => k ρ S σ' H' F' μ' l p e ml mh (EndS.mono (show EndS X W fr μ F (f ρ S) D from h) l p e)
  | bk ρ S => exact fun σ' H' F' μ' l p e ml mh => by rw [hb]; exact h σ' H' F' μ' l p e ml mh
  | ct ρ S => exact fun σ' H' F' μ' l p e ml mh => by rw [hc]; exact h σ' H' F' μ' l p e ml mh
  | ret v S => exact fun b H' F' μ' l p e mh rp => by rw [hr]; exact h b H' F' μ' l p e mh rp
  | exc x ρ S => exact h
  | bad => exact h
theorem EndS.turn {r : SR} {f : Loc → Store → SR} (h : EndS X W fr μ F (r.turn f) D) (k : ∀ ρ' S' σ' H' F' μ', Le F F' → μ.pre μ' → μ'.P = μ.P → Ml X.K σ' ρ' F' μ' → Mh X.K H' S' F' μ' → EndS X W fr μ' F' (f ρ' S') D → D'.nx σ' H' ∧ D'.ct σ' H') (hr : D'.rt = D.rt) (hb : D'.bk = D.nx) :
    EndS X W fr μ F r D' := by
  cases r with
  | nx ρ S => exact fun σ' H' F' μ' l p e ml mh => (k ρ S σ' H' F' μ' l p e ml mh (EndS.mono (show EndS X W fr μ F (f ρ S) D from h) l p e)).1
  | ct ρ S => exact fun σ' H' F' μ' l p e ml mh => (k ρ S σ' H' F' μ' l p e ml mh (EndS.mono (show EndS X W fr μ F (f ρ S) D from h) l p e)).2
  | bk ρ S => exact fun σ' H' F' μ' l p e ml mh => by rw [hb]; exact h σ' H' F' μ' l p e ml mh
  | ret v S => exact fun b H' F' μ' l p e mh rp => by rw [hr]; exact h b H' F' μ' l p e mh rp
  | exc x ρ S => exact h
  | bad => exact h
theorem PS.imp {s : Stmt} {t t' : TS} (h : PS X s t) (k : ∀ D σ H, t' D σ H → t D σ H) : PS X s t' := ⟨fun pins s σ H D I hw => h.run pins s σ H D I (k _ _ _ hw)⟩
theorem PSs.imp {s : List Stmt} {t t' : TS} (h : PSs X s t) (k : ∀ D σ H, t' D σ H → t D σ H) : PSs X s t' := ⟨fun pins s σ H D I hw => h.run pins s σ H D I (k _ _ _ hw)⟩
end

structure GdS (ci : CI) (call : CallF) (kl : Nat) (W : WX) (sc : Scope) (X : Cx) : Prop where
  g : Gd ci call kl anyCell W sc X
  own : PassesOwn (model X.prog X.w) X.A X.env X.xe
  kind : sc.kind = .function
section
variable {ci : CI} {si : SI} {call : CallF} {wf kl : Nat} {W : WX} {sc : Scope} {X : Cx}

theorem nmOf_loc (g : Gd ci call kl anyCell W sc X) {x : Str} {i : Nat} (h : nmOf ci sc x = some i) : X.N[i]? = some x ∧ L2.Loc X.env.scope x ∧ (X.fn x = true ∨ X.env.scope.names.lookup x = some .local) := by
  unfold nmOf at h
  split at h
  · rename_i hx
    refine ⟨by rw [g.N]; exact ixOf_get h, ?_, .inl (g.fn x rfl)⟩
    unfold L2.Loc
    rw [g.sc]; exact hx
  · cases h
theorem rdG_name {i : Nat} {v : V} {σ : L2.St} {H : Hp} {Q : L2.St → Hp → Prop} (h : rdG X (.name i) v σ H Q) : gName i v σ H Q := by
  obtain ⟨w, ρ, S, F, μ, ρ', ml, mh, rp, hb, k⟩ := h
  simp only [bindT, Option.some.injEq] at hb
  subst hb
  exact k _ (ml.set rp) fun own hown => wipe_set (hown i (by simp [DT.slots]))
/-- a name's assignment, its value any expression -/
theorem snd_setN (g : Gd ci call kl anyCell W sc X) {n : Nat} {x : Str} {i : Nat} {e : Expr} {e' : DE} {px pos : Pos} (hx : nmOf ci sc x = some i) (he : compE ci n sc e = some e') (hlv : isLcv e' = false) : ∃ t : TE, (∀ σ H Q, rd (frsh e') X W (evE call e') σ H Q → t σ H Q) ∧ PS X (.Assign [.Name x px] e pos) (tAsg t (gName i)) := by
  obtain ⟨h1, h2, h3⟩ := nmOf_loc g hx
  have plain : isLC e = false → ∃ t : TE, (∀ σ H Q, rd (frsh e') X W (evE call e') σ H Q → t σ H Q) ∧ PS X (.Assign [.Name x px] e pos) (tAsg t (gName i)) := fun hl =>
    ⟨_, fun _ _ _ h => h, ps_set g.nd h1 h2 (snd_E n sc anyCell W X g e e' he).1 (by cases e <;> first | rfl | (simp [isLC] at hl; done)) h3⟩
  cases hl : isLC e with
  | false => exact plain hl
  | true =>
    cases e with
    | SetComp => cases n <;> simp [compE] at he
    | DictComp => cases n <;> simp [compE] at he
    | ListComp elt gens scope cpos =>
      -- the store within the comprehension's frame, or behind it
      obtain ⟨b, hb⟩ : ∃ b, swapsWith (.ListComp elt gens scope cpos) (some (.Name x px)) pos.line X.env = pure b := ⟨_, rfl⟩
      cases b with
      | false => exact ⟨_, fun _ _ _ h => h, ps_set g.nd h1 h2 (snd_E n sc anyCell W X g _ e' he).1 hb h3⟩
      | true =>
        have hloc : X.env.scope.names.lookup x = some .local := by
          have e1 : swapsWith (.ListComp elt gens scope cpos) (some (.Name x px)) pos.line X.env = pure (X.env.blockKind == .function && X.env.kindOf x == some .local && px.line == (Expr.ListComp elt gens scope cpos).pos.line && !(scope.names.any fun (n, k) => n == x && (k == .local || k == .cell))) := rfl
          by_cases hq : X.env.scope.names.lookup x = some .local
          · exact hq
          · exfalso
            have e2 : (X.env.kindOf x == some .local) = false := by
              show (X.env.scope.names.lookup x == some .local) = false
              simpa using hq
            rw [hb, e2] at e1
            simp only [Bool.and_false, Bool.false_and] at e1
            have e3 : (pure true : Sem Bool) = pure false := e1
            cases e3
        cases n with
        | zero => cases he
        | succ n =>
          simp only [compE] at he
          split at he
          · rename_i tg iter ifs
            split at he
            · rename_i hblk
              simp only [Option.bind_eq_some_iff] at he
              obtain ⟨tg', htg, he⟩ := he
              split at he
              · rename_i hsl
                split at he
                · simp only [Option.bind_eq_some_iff, Option.map_eq_some_iff] at he
                  obtain ⟨ifs', hifs, elt', helt, rfl⟩ := he
                  cases hlv
                simp only [Option.bind_eq_some_iff, Option.map_eq_some_iff] at he
                obtain ⟨args', hargs, ifs', hifs, elt', helt, rfl⟩ := he
                have ih : ∀ {e : Expr} {e' : DE}, compE ci n sc e = some e' → PE X e (rdE X W (evE call e')) := fun {e e'} h => PE.frz (snd_E n sc anyCell W X g e e' h).1
                have ok : BlkOk X.N X.env.scope scope (ownOf ci.N scope) := by rw [g.N, g.sc]; exact blkOk_by hblk.1
                have hsl' : ∀ i ∈ tg'.slots, i ∈ (ownOf ci.N scope).map (·.2) := fun i hi => by
                  have := List.all_eq_true.mp hsl i hi
                  simpa using this
                have hi := snd_iter g (tg := tg) (iter := iter) (optAll_sndL ih hargs)
                have hns : ∀ es k p, iter ≠ .Set es k p := fun es k p z => by
                  subst z
                  have : optAll (compE ci n sc) [.Set es k p] = some args' := hargs
                  obtain ⟨b, r, q1, _, _⟩ := optAll_cons this
                  rw [compE_set] at q1; cases q1
                have G' := fun (s : Shared) (H : Hp) (C : Addr) (cl : List (Str × Addr)) (fp : List Addr) => g.blk s H scope C cl fp
                have hpt : ∀ (s : Shared) (H : Hp) (C : Addr) (cl : List (Str × Addr)) (fp : List Addr), PTs (X.blk s H scope (compEnvC scope cl C X.env) fp) ifs (rdT (X.blk s H scope (compEnvC scope cl C X.env) fp) (fun _ _ _ _ => False) (evTs call ifs')) := fun s H C cl fp => by
                  match ifs, hifs, hblk.2 with
                  | [], hifs, _ => cases hifs; exact snd_ptsN
                  | [c], hifs, _ =>
                    obtain ⟨b, r, q1, q2, rfl⟩ := optAll_cons hifs
                    cases q2
                    exact snd_pts1 (snd_E n _ _ _ _ (G' s H C cl fp) c b q1).2
                  | _ :: _ :: _, _, hl => simp at hl
                exact ⟨_, fun σ H Q hq => snd_lc g (pos := cpos) ok hsl' hi (folded_of hns) (fun s H C cl fp => snd_T (G' s H C cl fp) n htg) hpt (fun s H C cl fp => PE.frz (snd_E n _ _ _ _ (G' s H C cl fp) elt elt' helt).1) hq,
                  ps_setLc g.calm g.nd h1 hloc hb hi ok (fun s H C cl fp => snd_T (G' s H C cl fp) n htg) hpt (fun s H C cl fp => PE.frz (snd_E n _ _ _ _ (G' s H C cl fp) elt elt' helt).1) (folded_of hns)⟩
              · cases he
            · cases he
          · rename_i tg iter ifs tg1 iter1 ifs1
            split at he
            · rename_i hblk
              simp only [Option.bind_eq_some_iff] at he
              obtain ⟨tg', htg, tg1', htg1, he⟩ := he
              split at he
              · rename_i hsl
                simp only [Option.bind_eq_some_iff, Option.map_eq_some_iff] at he
                obtain ⟨args', hargs, ifs', hifs, args1', hargs1, ifs1', hifs1, elt', helt, rfl⟩ := he
                have ih : ∀ {e : Expr} {e' : DE}, compE ci n sc e = some e' → PE X e (rdE X W (evE call e')) := fun {e e'} h => PE.frz (snd_E n sc anyCell W X g e e' h).1
                have ok : BlkOk X.N X.env.scope scope (ownOf ci.N scope) := by rw [g.N, g.sc]; exact blkOk_by hblk.1
                have hsl' : ∀ i ∈ tg'.slots, i ∈ (ownOf ci.N scope).map (·.2) := fun i hi => by
                  have := List.all_eq_true.mp hsl.1 i hi
                  simpa using this
                have hsl1' : ∀ i ∈ tg1'.slots, i ∈ (ownOf ci.N scope).map (·.2) := fun i hi => by
                  have := List.all_eq_true.mp hsl.2 i hi
                  simpa using this
                have G' := fun (s : Shared) (H : Hp) (C : Addr) (cl : List (Str × Addr)) (fp : List Addr) => g.blk s H scope C cl fp
                have hptA : ∀ (ifs : List Expr) (ifs' : List DE), ifs.length ≤ 1 → optAll (compE ci n (relS scope sc)) ifs = some ifs' → ∀ (s : Shared) (H : Hp) (C : Addr) (cl : List (Str × Addr)) (fp : List Addr), PTs (X.blk s H scope (compEnvC scope cl C X.env) fp) ifs (rdT (X.blk s H scope (compEnvC scope cl C X.env) fp) (fun _ _ _ _ => False) (evTs call ifs')) := fun ifs ifs' hl hifs s H C cl fp => by
                  match ifs, hifs, hl with
                  | [], hifs, _ => cases hifs; exact snd_ptsN
                  | [c], hifs, _ =>
                    obtain ⟨b, r, q1, q2, rfl⟩ := optAll_cons hifs
                    cases q2
                    exact snd_pts1 (snd_E n _ _ _ _ (G' s H C cl fp) c b q1).2
                  | _ :: _ :: _, _, hl => simp at hl
                have hns : ∀ {sc0 : Scope} {it0 : Expr} {as0 : List DE} {tg0 : Expr}, optAll (compE ci n sc0) (iterK ci sc0 tg0 it0).2 = some as0 → ∀ es k p, it0 ≠ .Set es k p := fun {sc0 it0 as0 tg0} q es k p z => by
                  subst z
                  have : optAll (compE ci n sc0) [.Set es k p] = some as0 := q
                  obtain ⟨b, r, q1, _, _⟩ := optAll_cons this
                  rw [compE_set] at q1; cases q1
                have hi := snd_iter g (tg := tg) (iter := iter) (optAll_sndL ih hargs)
                have hi1 := fun (s : Shared) (H : Hp) (C : Addr) (cl : List (Str × Addr)) (fp : List Addr) => snd_iter (G' s H C cl fp) (tg := tg1) (iter := iter1) (optAll_sndL (fun {e e'} h => PE.frz (snd_E n _ _ _ _ (G' s H C cl fp) e e' h).1) hargs1)
                exact ⟨_, fun σ H Q hq => snd_lc2 hsl' hq,
                  ps_setLc2 g.calm g.nd h1 hloc hb hi ok hsl1' (fun s H C cl fp => snd_T (G' s H C cl fp) n htg) (hptA ifs ifs' hblk.2.1 hifs) hi1 (fun s H C cl fp => snd_T (G' s H C cl fp) n htg1) (hptA ifs1 ifs1' hblk.2.2 hifs1) (fun s H C cl fp => PE.frz (snd_E n _ _ _ _ (G' s H C cl fp) elt elt' helt).1) (folded_of (hns hargs)) (fun env x => folded_of (hns hargs1) x)⟩
              · cases he
            · cases he
          · cases he
    | _ => simp [isLC] at hl
theorem rd_frz {fr : Bool} {m : Loc → Store → R Sv} {σ : L2.St} {H : Hp} {Q : VK} (h : rdE X W m σ H Q) : rd fr X W m σ H Q := by
  cases fr with
  | false => exact h
  | true => exact rdE_rdF h
theorem snd_asgN (g : Gd ci call kl anyCell W sc X) {fr : Bool} {n : Nat} {x : Str} {i : Nat} {e : Expr} {e' : DE} {px pos : Pos} (hx : nmOf ci sc x = some i) (he : compE ci n sc e = some e') (hlv : isLcv e' = false) : PS X (.Assign [.Name x px] e pos) (rdS X W fr (evS call wf (.asg (.name i) e'))) := by
  obtain ⟨t, ht, hp⟩ := snd_setN (px := px) (pos := pos) g hx he hlv
  refine PS.imp hp fun D σ H hq => ?_
  obtain ⟨ρ, S, F, μ, ml, mh, hh⟩ := hq
  have hh : EndS X W fr μ F ((evE call e' ρ S).st ρ fun v S1 => SR.of (bindT (.name i) v ρ) S1) D := hh
  refine ht σ H _ (rd_frz ⟨ρ, S, F, μ, ml, mh, hh.split ml fun v S1 xv H1 F1 _ l1 m1 r1 h1 => ?_⟩)
  simp only [bindT, SR.of_some] at h1
  exact h1 _ H1 F1 μ (Le.refl _) (Fp.pre.refl _) rfl ((ml.mono l1).set r1) m1
theorem snd_new (g : Gd ci call kl anyCell W sc X) {fr : Bool} {n : Nat} {x : Str} {i : Nat} {e : Expr} {e' : DE} {px pos : Pos} (hx : nmOf ci sc x = some i) (he : compE ci n sc e = some e') (hf : frsh e' = true) (hlv : isLcv e' = false) : PS X (.Assign [.Name x px] e pos) (rdS X W fr (evS call wf (.new i e'))) := by
  obtain ⟨t, ht, hp⟩ := snd_setN (px := px) (pos := pos) g hx he hlv
  refine PS.imp hp fun D σ H hq => ?_
  obtain ⟨ρ, S, F, μ, ml, mh, hh⟩ := hq
  have hh : EndS X W fr μ F ((evE call e' ρ S).st ρ fun v S1 => match v with
    | .p (.lst xs) => if frsh e' then .nx (ρ.set i (some (.c S1.length))) (S1 ++ [.lst xs]) else .bad
    | .p (.dct ks vs) => if frsh e' then .nx (ρ.set i (some (.c S1.length))) (S1 ++ [.dct ks vs]) else .bad
    | v => .nx (ρ.set i (some v)) S1) D := hh
  rw [hf] at ht
  refine ht σ H _ ⟨ρ, S, F, μ, ml, mh, hh.split ml fun v S1 xv H1 F1 _ l1 m1 r1 h1 => ?_⟩
  have plain : ∀ {v : Sv}, RepS X.K F1 μ v xv → EndS X W fr μ F1 (.nx (ρ.set i (some v)) S1) D → gName i xv σ H1 D.nx := fun {v} r h => h _ H1 F1 μ (Le.refl _) (Fp.pre.refl _) rfl ((ml.mono l1).set r) m1
  cases v with
  | c j => exact plain (v := .c j) r1 h1
  | p d =>
    cases d with
    | lst xs =>
      obtain ⟨a, vs, rfl, q1, q2, q3, q4, q5⟩ := r1
      simp only [hf, if_true] at h1
      have pr : μ.pre (μ.ext [a]) := ⟨[a], rfl⟩
      refine h1 _ H1 F1 (μ.ext [a]) (Le.refl _) pr rfl (((ml.mono l1).pre pr).set ⟨a, ?_, rfl⟩) (m1.own q1 q2 q3 q4 q5)
      unfold Fp.ext
      rw [← m1.mlen, List.getElem?_append_right (Nat.le_refl _), Nat.sub_self]
      rfl
    | non => exact plain (v := .p .non) r1 h1
    | bl b => exact plain (v := .p (.bl b)) r1 h1
    | int b => exact plain (v := .p (.int b)) r1 h1
    | str b => exact plain (v := .p (.str b)) r1 h1
    | tup b => exact plain (v := .p (.tup b)) r1 h1
    | scr b => exact plain (v := .p (.scr b)) r1 h1
    | fn b => exact plain (v := .p (.fn b)) r1 h1
    | dct ks ds =>
      obtain ⟨a, vs, rfl, q1, q2, q3, q4, q5, q6⟩ := r1
      simp only [hf, if_true] at h1
      have pr : μ.pre (μ.ext [a]) := ⟨[a], rfl⟩
      refine h1 _ H1 F1 (μ.ext [a]) (Le.refl _) pr rfl (((ml.mono l1).pre pr).set ⟨a, ?_, rfl⟩) (m1.ownC q2 q3 q4 ⟨vs, q1, q5, q6⟩)
      unfold Fp.ext
      rw [← m1.mlen, List.getElem?_append_right (Nat.le_refl _), Nat.sub_self]
      rfl
/-- a tuple's assignment, part by part -/
theorem snd_asgT (g : Gd ci call kl anyCell W sc X) {fr : Bool} {n : Nat} {ts : List Expr} {kk : Nat} {tp pos : Pos} {t : DT} {e : Expr} {e' : DE} (ht : compT ci anyCell n sc (.Tuple ts kk tp) = some t) (he : compE ci n sc e = some e') (hw : swappedStores [.Tuple ts kk tp] e X.env = pure none) :
    PS X (.Assign [.Tuple ts kk tp] e pos) (rdS X W fr (evS call wf (.asg t e'))) := by
  refine PS.imp (ps_asg (PE.frz (snd_E n sc anyCell W X g e e' he).1) (snd_T g n ht) (by cases e <;> rfl) hw rfl) fun D σ H hq => ?_
  obtain ⟨ρ, S, F, μ, ml, mh, hh⟩ := hq
  have hh : EndS X W fr μ F ((evE call e' ρ S).st ρ fun v S1 => SR.of (bindT t v ρ) S1) D := hh
  refine ⟨ρ, S, F, μ, ml, mh, hh.split ml fun v S1 xv H1 F1 _ l1 m1 r1 h1 => ?_⟩
  cases hb : bindT t v ρ with
  | none => rw [hb] at h1; exact (show False from h1).elim
  | some ρ' =>
    rw [hb] at h1
    exact ⟨v, ρ, S1, F1, μ, ρ', ml.mono l1, m1, r1, hb, fun σ' ml' _ => h1 σ' H1 F1 μ (Le.refl _) (Fp.pre.refl _) rfl ml' m1⟩
theorem swap_none {e : Expr} {tg : Expr} {env : Env} (h : isTup e = false) : swappedStores [tg] e env = pure none := by
  cases tg <;> cases e <;> first | rfl | (simp [isTup] at h; done)
theorem fm_eq {α β : Type} (f g : α → Option β) (h : ∀ e, f e = g e) (ts : List α) : ts.filterMap f = ts.filterMap g := by
  have : f = g := funext h
  rw [this]
theorem any_eq {α : Type} (f g : α → Bool) (h : ∀ e, f e = g e) (ts : List α) : ts.any f = ts.any g := by
  have : f = g := funext h
  rw [this]
theorem swap_of {sc : Scope} {env : Env} {ts vs : List Expr} {k k2 : Nat} {p p2 : Pos} {o : Option (List Str)} (he : env.scope = sc) (h : swapOf sc ts vs = some o) : swappedStores [.Tuple ts k p] (.Tuple vs k2 p2) env = pure o := by
  subst he
  unfold swapOf at h
  split at h
  · cases h
  · rename_i h1
    split at h
    · cases h
    · rename_i h2
      have hk : env.scope.kind = .function := by
        simp only [Bool.or_eq_true, not_or, bne_iff_ne, ne_eq, Decidable.not_not, Bool.not_eq_true] at h1
        exact h1.2
      have hbk : env.blockKind = .function := by unfold Env.blockKind; rw [hk]; rfl
      have c1 : (!(ts.length == 2 || ts.length == 3) || vs.length != ts.length || env.blockKind != .function) = false := by
        rw [hbk]
        simpa [hk] using h1
      unfold swappedStores
      simp only [c1, Bool.false_eq_true, if_false]
      rw [any_eq _ isStar (fun e => by cases e <;> rfl), if_neg h2, fm_eq _ (nmAt env.scope ((ts.head?.map (·.pos.line)).getD 0)) (fun e => by cases e <;> rfl)]
      dsimp only at h
      generalize List.filterMap (nmAt env.scope ((ts.head?.map (·.pos.line)).getD 0)) ts = names at h ⊢
      split at h
      · rename_i h3
        cases h
        rw [if_pos h3]
      · rename_i h3
        rw [if_neg h3]
        split at h
        · rename_i h4
          cases h
          rw [if_pos h4]
        · rename_i h4
          rw [if_neg h4]
          split at h
          · cases h
          · rename_i h5
            cases h
            rw [if_neg h5]
end
end DV

set_option Elab.async false
set_option linter.all false
set_option maxRecDepth 100000
set_option maxHeartbeats 4000000
/-! DV11: statements, the rest. -/
namespace DV
open PySem PySem.Spec PyProof.Rows L2
section
variable {ci : CI} {si : SI} {call : CallF} {wf kl : Nat} {W : WX} {sc : Scope} {X : Cx}

theorem filterMap_two {α β : Type} {f : α → Option β} {a b : α} (h : ([a, b].filterMap f).length = 2) : ∃ x y, f a = some x ∧ f b = some y ∧ [a, b].filterMap f = [x, y] := by
  cases ha : f a with
  | none => cases hb : f b <;> simp [List.filterMap_cons, ha, hb] at h
  | some x =>
    cases hb : f b with
    | none => simp [List.filterMap_cons, ha, hb] at h
    | some y => exact ⟨x, y, rfl, rfl, by simp [List.filterMap_cons, ha, hb]⟩
theorem filterMap_three {α β : Type} {f : α → Option β} {a b c : α} (h : ([a, b, c].filterMap f).length = 3) : ∃ x y z, f a = some x ∧ f b = some y ∧ f c = some z ∧ [a, b, c].filterMap f = [x, y, z] := by
  cases ha : f a with
  | none => cases hb : f b <;> cases hc : f c <;> simp [List.filterMap_cons, ha, hb, hc] at h
  | some x =>
    cases hb : f b with
    | none => cases hc : f c <;> simp [List.filterMap_cons, ha, hb, hc] at h
    | some y =>
      cases hc : f c with
      | none => simp [List.filterMap_cons, ha, hb, hc] at h
      | some z => exact ⟨x, y, z, rfl, rfl, rfl, by simp [List.filterMap_cons, ha, hb, hc]⟩
theorem nmAt_name {l : Nat} {x y : Str} {p : Pos} (h : nmAt sc l (.Name x p) = some y) : y = x := by
  unfold nmAt at h
  dsimp only at h
  split at h
  · exact (Option.some.inj h).symm
  · cases h
theorem swap_par {ts vs : List Expr} {names : List Str} (h : swapOf sc ts vs = some (some names)) : (ts.length = 2 ∨ ts.length = 3) ∧ vs.length = ts.length ∧ ∃ l, names = ts.filterMap (nmAt sc l) ∧ (ts.filterMap (nmAt sc l)).length = ts.length := by
  unfold swapOf at h
  split at h
  · cases h
  · rename_i h1
    simp only [Bool.or_eq_true, not_or, bne_iff_ne, ne_eq, Decidable.not_not, Bool.not_eq_true, Bool.not_eq_false', beq_iff_eq] at h1
    split at h
    · cases h
    · dsimp only at h
      split at h
      · cases h
      · rename_i h3
        simp only [Bool.or_eq_true, not_or, bne_iff_ne, ne_eq, Decidable.not_not] at h3
        split at h
        · cases h
        · split at h
          · cases h
          · cases h
            exact ⟨h1.1.1, h1.1.2, _, rfl, h3.1⟩
theorem locs_cons {a : Expr} {as : List Expr} {is : List Nat} (h : locs ci sc (a :: as) = some is) : ∃ x p i r, a = .Name x p ∧ sc.names.lookup x = some .local ∧ ixOf ci.N x = some i ∧ locs ci sc as = some r ∧ is = i :: r := by
  unfold locs at h
  obtain ⟨b, r, h1, h2, rfl⟩ := optAll_cons h
  cases a with
  | Name x p =>
    dsimp only at h1
    split at h1
    · rename_i hx; exact ⟨x, p, b, r, rfl, hx, h1, h2, rfl⟩
    · cases h1
  | _ => cases h1
theorem locs_nil {is : List Nat} (h : locs ci sc [] = some is) : is = [] := by cases h; rfl
theorem RepSs.one {K : PySem.W.Frag} {F : Hp} {μ : Fp} {v : Sv} {xs : List V} (h : RepSs K F μ [v] xs) : ∃ x, xs = [x] ∧ RepS K F μ v x := by
  obtain ⟨x, r, rfl, h1, h2⟩ := h
  cases h2
  exact ⟨x, rfl, h1⟩
theorem RepSs.two {K : PySem.W.Frag} {F : Hp} {μ : Fp} {v w : Sv} {xs : List V} (h : RepSs K F μ [v, w] xs) : ∃ x y, xs = [x, y] ∧ RepS K F μ v x ∧ RepS K F μ w y := by
  obtain ⟨x, r, rfl, h1, h2⟩ := h
  obtain ⟨y, rfl, h3⟩ := RepSs.one h2
  exact ⟨x, y, rfl, h1, h3⟩
theorem RepSs.three {K : PySem.W.Frag} {F : Hp} {μ : Fp} {v w u : Sv} {xs : List V} (h : RepSs K F μ [v, w, u] xs) : ∃ x y z, xs = [x, y, z] ∧ RepS K F μ v x ∧ RepS K F μ w y ∧ RepS K F μ u z := by
  obtain ⟨x, r, rfl, h1, h2⟩ := h
  obtain ⟨y, z, rfl, h3, h4⟩ := RepSs.two h2
  exact ⟨x, y, z, rfl, h1, h3, h4⟩

theorem snd_par (g : Gd ci call kl anyCell W sc X) {fr : Bool} {n : Nat} {ts vs : List Expr} {names : List Str} {is : List Nat} {es : List DE} {kt k2 : Nat} {tp p2 pos : Pos}
    (hsw : swapOf sc ts vs = some (some names)) (hl : locs ci sc ts = some is) (hnd : is.Nodup) (he : optAll (compE ci n sc) vs = some es) :
    PS X (.Assign [.Tuple ts kt tp] (.Tuple vs k2 p2) pos) (rdS X W fr (evS call wf (.par is es))) := by
  obtain ⟨hlen, hvl, l, hnm, hfl⟩ := swap_par hsw
  have hw : swappedStores [.Tuple ts kt tp] (.Tuple vs k2 p2) X.env = pure (some names) := swap_of g.sc hsw
  have hpa : PA X vs (rdL X W (evL call es)) := (optAll_sndL (fun h => PE.frz (snd_E n sc anyCell W X g _ _ h).1) he).pa
  rcases hlen with h2 | h3
  · obtain ⟨a, b, rfl⟩ : ∃ a b, ts = [a, b] := two_of_len h2
    obtain ⟨e1, e2, rfl⟩ : ∃ a b, vs = [a, b] := two_of_len (by rw [hvl]; rfl)
    obtain ⟨x, px, i, r, rfl, hx, hi, hr, rfl⟩ := locs_cons hl
    obtain ⟨y, py, j, r', rfl, hy, hj, hr', rfl⟩ := locs_cons hr
    cases locs_nil hr'
    obtain ⟨x', y', q1, q2, q3⟩ := filterMap_two hfl
    cases nmAt_name q1; cases nmAt_name q2
    rw [hnm, q3] at hw
    have hij : i ≠ j := by simp at hnd; exact hnd
    refine PS.imp (ps_par g.calm g.nd (by rw [g.N]; exact ixOf_get hi) (by rw [g.N]; exact ixOf_get hj) hij (by rw [g.sc]; exact hx) (by rw [g.sc]; exact hy) hpa hw) fun D σ H hq => ?_
    obtain ⟨ρ, S, F, μ, ml, mh, hh⟩ := hq
    have hh : EndS X W fr μ F ((evL call es ρ S).st ρ fun vs S1 => if [i, j].length = vs.length then .nx (([i, j].zip vs).foldl (fun ρ p => ρ.set p.1 (some p.2)) ρ) S1 else .bad) D := hh
    refine ⟨ρ, S, F, μ, ml, mh, hh.split ml fun v S1 xv H1 F1 _ l1 m1 r1 h1 => ?_⟩
    split at h1
    · rename_i hlen
      obtain ⟨v1, v2, rfl⟩ : ∃ a b, v = [a, b] := two_of_len (by simpa using hlen.symm)
      obtain ⟨x1, x2, rfl, t1, t2⟩ := RepSs.two r1
      exact ⟨x1, x2, rfl, h1 _ H1 F1 μ (Le.refl _) (Fp.pre.refl _) rfl (((ml.mono l1).set t1).set t2) m1⟩
    · exact (show False from h1).elim
  · obtain ⟨a, b, c, rfl⟩ : ∃ a b c, ts = [a, b, c] := by
      match ts, h3 with
      | [a, b, c], _ => exact ⟨a, b, c, rfl⟩
    obtain ⟨e1, e2, e3, rfl⟩ : ∃ a b c, vs = [a, b, c] := by
      match vs, hvl with
      | [a, b, c], _ => exact ⟨a, b, c, rfl⟩
    obtain ⟨x, px, i, r, rfl, hx, hi, hr, rfl⟩ := locs_cons hl
    obtain ⟨y, py, j, r', rfl, hy, hj, hr', rfl⟩ := locs_cons hr
    obtain ⟨z, pz, k, r'', rfl, hz, hk, hr'', rfl⟩ := locs_cons hr'
    cases locs_nil hr''
    obtain ⟨x', y', z', q1, q2, q3, q4⟩ := filterMap_three hfl
    cases nmAt_name q1; cases nmAt_name q2; cases nmAt_name q3
    rw [hnm, q4] at hw
    have hn : i ≠ j ∧ i ≠ k ∧ j ≠ k := by
      simp at hnd
      exact ⟨hnd.1.1, hnd.1.2, hnd.2⟩
    refine PS.imp (ps_par3 g.calm g.nd (by rw [g.N]; exact ixOf_get hi) (by rw [g.N]; exact ixOf_get hj) (by rw [g.N]; exact ixOf_get hk) hn.1 hn.2.1 hn.2.2 (by rw [g.sc]; exact hx) (by rw [g.sc]; exact hy) (by rw [g.sc]; exact hz) hpa hw) fun D σ H hq => ?_
    obtain ⟨ρ, S, F, μ, ml, mh, hh⟩ := hq
    have hh : EndS X W fr μ F ((evL call es ρ S).st ρ fun vs S1 => if [i, j, k].length = vs.length then .nx (([i, j, k].zip vs).foldl (fun ρ p => ρ.set p.1 (some p.2)) ρ) S1 else .bad) D := hh
    refine ⟨ρ, S, F, μ, ml, mh, hh.split ml fun v S1 xv H1 F1 _ l1 m1 r1 h1 => ?_⟩
    split at h1
    · rename_i hlen
      obtain ⟨v1, v2, v3, rfl⟩ : ∃ a b c, v = [a, b, c] := by
        match v, hlen with
        | [a, b, c], _ => exact ⟨a, b, c, rfl⟩
      obtain ⟨x1, x2, x3, rfl, t1, t2, t3⟩ := RepSs.three r1
      exact ⟨x1, x2, x3, rfl, h1 _ H1 F1 μ (Le.refl _) (Fp.pre.refl _) rfl ((((ml.mono l1).set t1).set t2).set t3) m1⟩
    · exact (show False from h1).elim

/-- the parts, new lists among them -/
def EndN (X : Cx) (W : WX) (μ : Fp) (F : Hp) (σ : L2.St) (r : R (List Sv)) (Q : List V → Hp → Prop) : Prop :=
  match r with
  | .ok vs S => ∀ xs H' F' μ', Le F F' → μ.pre μ' → μ'.P = μ.P → Mh X.K H' S F' μ' → RepSs X.K F' μ' vs xs → Q xs H'
  | .exc e S => ∀ H' F' μ' cls d, Le F F' → μ.pre μ' → μ'.P = μ.P → Mh X.K H' S F' μ' → XcIs X.mg F' e cls d → W cls d σ H'
  | .bad => False
theorem EndN.mono {μ μ1 : Fp} {F G : Hp} {σ : L2.St} {r : R (List Sv)} {Q : List V → Hp → Prop} (h : EndN X W μ F σ r Q) (l : Le F G) (p : μ.pre μ1) (e : μ1.P = μ.P) : EndN X W μ1 G σ r Q := by
  cases r with
  | ok vs S => exact fun xs H' F' μ' l' p' e' => h xs H' F' μ' (l.trans l') (p.trans p') (e'.trans e)
  | exc x S => exact fun H' F' μ' cls d l' p' e' => h H' F' μ' cls d (l.trans l') (p.trans p') (e'.trans e)
  | bad => exact h
def tN (X : Cx) (W : WX) (call : CallF) : List DE → TA
  | [] => tNil
  | e :: es => tCons (rd (frsh e) X W (evE call e)) (tN X W call es)
/-- each of the expressions, its freshness kept -/
inductive SndN (X : Cx) (W : WX) (call : CallF) : List Expr → List DE → Prop
  | nil : SndN X W call [] []
  | cons {e : Expr} {es : List Expr} {e' : DE} {es' : List DE} (ns : ∀ a p, e ≠ .Starred a p) (h : PE X e (rd (frsh e') X W (evE call e'))) (t : SndN X W call es es') : SndN X W call (e :: es) (e' :: es')
theorem SndN.toL {es : List Expr} {es' : List DE} (h : SndN X W call es es') : SndL X W call es es' := by
  induction h with
  | nil => exact .nil
  | cons ns h t ih => exact .cons ns (PE.frz h) ih
theorem SndN.pa {es : List Expr} {es' : List DE} (h : SndN X W call es es') : PA X es (tN X W call es') := by
  induction h with
  | nil => exact pa_nil
  | @cons e es e' es' ns h t ih => exact pa_cons h ih (by rw [(SndL.cons ns (PE.frz h) t.toL).star, t.toL.star, List.map_cons])
theorem optAll_sndN (g : Gd ci call kl anyCell W sc X) {n : Nat} : ∀ {es : List Expr} {es' : List DE}, optAll (compE ci n sc) es = some es' → SndN X W call es es'
  | [], _, h => by cases h; exact .nil
  | e :: es, _, h => by
    obtain ⟨b, r, h1, h2, rfl⟩ := optAll_cons h
    exact .cons (fun a p z => by rw [z, compE_star] at h1; cases h1) (snd_E n sc anyCell W X g e b h1).1 (optAll_sndN g h2)
/-- frozen, where it was new -/
theorem rep_freeze {fr : Bool} {μ : Fp} {F H : Hp} {S : Store} {v : Sv} {x : V} (m : Mh X.K H S F μ) (rp : (if fr then RpF X.K μ else RpE X.K μ) F H v x) : ∃ G, Le F G ∧ Mh X.K H S G μ ∧ RepS X.K G μ v x := by
  cases fr with
  | false => exact ⟨F, Le.refl _, m, rp⟩
  | true =>
    cases v with
    | c i => exact ⟨F, Le.refl _, m, rp⟩
    | p d =>
      cases d with
      | lst ds =>
        obtain ⟨a, vs, rfl, q1, q2, q3, q5, q4⟩ := rp
        exact ⟨upd F a (.lst vs), Le.upd q2, m.freeze q1 q2 q3 q5, a, vs, rfl, upd_same, q4.mono (Le.upd q2)⟩
      | dct ks ds =>
        obtain ⟨a, vs, rfl, q1, q2, q3, q5, q4, q6⟩ := rp
        exact ⟨upd F a (.dK vs), Le.upd q2, m.freeze q1 q2 q3 q5, a, vs, rfl, upd_same, q4, q6.mono (Le.upd q2)⟩
      | _ => exact ⟨F, Le.refl _, m, rp⟩
theorem own_rep {b fr : Bool} {μ : Fp} {F H : Hp} {S S2 : Store} {v v' : Sv} {x : V} (m : Mh X.K H S F μ) (rp : (if fr then RpF X.K μ else RpE X.K μ) F H v x) (h : ownV b fr v S = some (v', S2)) :
    ∃ G μ', Le F G ∧ μ.pre μ' ∧ μ'.P = μ.P ∧ Mh X.K H S2 G μ' ∧ RepS X.K G μ' v' x := by
  have keep : v' = v → S2 = S → ∃ G μ', Le F G ∧ μ.pre μ' ∧ μ'.P = μ.P ∧ Mh X.K H S2 G μ' ∧ RepS X.K G μ' v' x := fun e1 e2 => by
    subst e1; subst e2
    obtain ⟨G, l, m', r⟩ := rep_freeze m rp
    exact ⟨G, μ, l, Fp.pre.refl _, rfl, m', r⟩
  unfold ownV at h
  split at h
  · rename_i xs
    split at h
    · rename_i hf
      cases h
      subst hf
      obtain ⟨a, vs, rfl, q1, q2, q3, q4, q5⟩ := rp
      refine ⟨F, μ.ext [a], Le.refl _, ⟨[a], rfl⟩, rfl, m.own q1 q2 q3 q4 q5, a, ?_, rfl⟩
      unfold Fp.ext
      rw [← m.mlen, List.getElem?_append_right (Nat.le_refl _), Nat.sub_self]
      rfl
    · cases h
  · rename_i ks ds
    split at h
    · rename_i hf
      cases h
      subst hf
      obtain ⟨a, vs, rfl, q1, q2, q3, q4, q5, q6⟩ := rp
      refine ⟨F, μ.ext [a], Le.refl _, ⟨[a], rfl⟩, rfl, m.ownC q2 q3 q4 ⟨vs, q1, q5, q6⟩, a, ?_, rfl⟩
      unfold Fp.ext
      rw [← m.mlen, List.getElem?_append_right (Nat.le_refl _), Nat.sub_self]
      rfl
    · cases h
  · cases h
    exact keep rfl rfl
theorem RepSs.cons' {F : Hp} {μ : Fp} {v : Sv} {vs : List Sv} {x : V} {xs : List V} (h : RepS X.K F μ v x) (r : RepSs X.K F μ vs xs) : RepSs X.K F μ (v :: vs) (x :: xs) := ⟨x, xs, rfl, h, r⟩
theorem tN_read {σ : L2.St} {ρ : Loc} : ∀ (es : List DE) (nf : List Bool) (S : Store) (F : Hp) (μ : Fp) (H : Hp) (Q : List V → Hp → Prop), Ml X.K σ ρ F μ → Mh X.K H S F μ → EndN X W μ F σ (evN call nf es ρ S) Q → tN X W call es σ H Q
  | [], nf, S, F, μ, H, Q, ml, mh, h => by
    cases nf with
    | nil => exact (show ∀ xs H' F' μ', _ → _ → _ → _ → _ → Q xs H' from h) [] H F μ (Le.refl _) (Fp.pre.refl _) rfl mh rfl
    | cons => exact (show False from h).elim
  | e :: es, nf, S, F, μ, H, Q, ml, mh, h => by
    cases nf with
    | nil => exact (show False from h).elim
    | cons b bs =>
      have h : EndN X W μ F σ ((evE call e ρ S).bind fun v S1 => match ownV b (frsh e) v S1 with
        | some p => (evN call bs es ρ p.2).bind fun vs S3 => .ok (p.1 :: vs) S3
        | none => .bad) Q := h
      have core : End X.K X.mg (WE W σ) μ (if frsh e then RpF X.K μ else RpE X.K μ) F (evE call e ρ S) (fun x H1 => tN X W call es σ H1 fun xs H2 => Q (x :: xs) H2) := by
        cases ev : evE call e ρ S with
        | bad => rw [ev] at h; exact h
        | exc y S1 => rw [ev] at h; exact fun H' F' cls d l m x => (show ∀ H' F' μ' cls d, _ → _ → _ → _ → _ → W cls d σ H' from h) H' F' μ cls d l (Fp.pre.refl _) rfl m x
        | ok v S1 =>
          rw [ev] at h
          intro x H1 F1 l1 m1 rp
          have rp : (if frsh e then RpF X.K μ else RpE X.K μ) F1 H1 v x := rp
          cases ho : ownV b (frsh e) v S1 with
          | none => simp only [R.bind_ok, ho] at h; exact (show False from h).elim
          | some p =>
            obtain ⟨v', S2⟩ := p
            simp only [R.bind_ok, ho] at h
            obtain ⟨G, μ', l2, pr, e2, m2, r2⟩ := own_rep m1 rp ho
            refine tN_read es bs S2 G μ' H1 _ ((ml.mono (l1.trans l2)).pre pr) m2 ?_
            have h := EndN.mono h (l1.trans l2) pr e2
            cases en : evN call bs es ρ S2 with
            | bad => rw [en] at h; exact h
            | exc y S3 => rw [en] at h; exact h
            | ok vs S3 =>
              rw [en] at h
              intro xs H' F' μ'' l3 p3 e3 m3 r3
              exact (show ∀ xs H' F' μ', _ → _ → _ → _ → _ → Q xs H' from h) (x :: xs) H' F' μ'' l3 p3 e3 m3 (RepSs.cons' ((r2.mono l3).pre p3) r3)
      show rd (frsh e) X W (evE call e) σ H _
      cases hf : frsh e with
      | false => rw [hf] at core; exact ⟨ρ, S, F, μ, ml, mh, core⟩
      | true => rw [hf] at core; exact ⟨ρ, S, F, μ, ml, mh, core⟩
theorem endN_of {fr : Bool} {μ : Fp} {F : Hp} {r : R (List Sv)} {σ : L2.St} {ρ : Loc} {f : List Sv → Store → SR} {D : Ends} {Q : List V → Hp → Prop} (h : EndS X W fr μ F (r.st ρ f) D) (ml : Ml X.K σ ρ F μ)
    (k : ∀ vs S xs H' F' μ', Le F F' → μ.pre μ' → μ'.P = μ.P → Mh X.K H' S F' μ' → RepSs X.K F' μ' vs xs → EndS X W fr μ' F' (f vs S) D → Q xs H') : EndN X W μ F σ r Q := by
  cases r with
  | bad => exact h
  | exc e S => exact fun H' F' μ' cls d l p e' m x => (show ∀ σ' H' F' μ' cls d, _ → _ → _ → _ → _ → _ → W cls d σ' H' from h) σ H' F' μ' cls d l p e' ((ml.mono l).pre p) m x
  | ok vs S => exact fun xs H' F' μ' l p e m rp => k vs S xs H' F' μ' l p e m rp (EndS.mono (show EndS X W fr μ F (f vs S) D from h) l p e)
theorem snd_parN (g : Gd ci call kl anyCell W sc X) {fr : Bool} {n : Nat} {ts vs : List Expr} {names : List Str} {is : List Nat} {nf : List Bool} {es : List DE} {kt k2 : Nat} {tp p2 pos : Pos}
    (hsw : swapOf sc ts vs = some (some names)) (hl : locs ci sc ts = some is) (hnd : is.Nodup) (he : optAll (compE ci n sc) vs = some es) :
    PS X (.Assign [.Tuple ts kt tp] (.Tuple vs k2 p2) pos) (rdS X W fr (evS call wf (.parN is nf es))) := by
  obtain ⟨hlen, hvl, l, hnm, hfl⟩ := swap_par hsw
  have hw : swappedStores [.Tuple ts kt tp] (.Tuple vs k2 p2) X.env = pure (some names) := swap_of g.sc hsw
  have hpa : PA X vs (tN X W call es) := (optAll_sndN g he).pa
  rcases hlen with h2 | h3
  · obtain ⟨a, b, rfl⟩ : ∃ a b, ts = [a, b] := two_of_len h2
    obtain ⟨e1, e2, rfl⟩ : ∃ a b, vs = [a, b] := two_of_len (by rw [hvl]; rfl)
    obtain ⟨x, px, i, r, rfl, hx, hi, hr, rfl⟩ := locs_cons hl
    obtain ⟨y, py, j, r', rfl, hy, hj, hr', rfl⟩ := locs_cons hr
    cases locs_nil hr'
    obtain ⟨x', y', q1, q2, q3⟩ := filterMap_two hfl
    cases nmAt_name q1; cases nmAt_name q2
    rw [hnm, q3] at hw
    have hij : i ≠ j := by simp at hnd; exact hnd
    refine PS.imp (ps_par g.calm g.nd (by rw [g.N]; exact ixOf_get hi) (by rw [g.N]; exact ixOf_get hj) hij (by rw [g.sc]; exact hx) (by rw [g.sc]; exact hy) hpa hw) fun D σ H hq => ?_
    obtain ⟨ρ, S, F, μ, ml, mh, hh⟩ := hq
    have hh : EndS X W fr μ F ((evN call nf es ρ S).st ρ fun vs S1 => if [i, j].length = vs.length then .nx (([i, j].zip vs).foldl (fun ρ p => ρ.set p.1 (some p.2)) ρ) S1 else .bad) D := hh
    refine tN_read es nf S F μ H _ ml mh (endN_of hh ml fun v S1 xv H1 F1 μ1 l1 pr1 e1 m1 r1 h1 => ?_)
    split at h1
    · rename_i hlen
      obtain ⟨v1, v2, rfl⟩ : ∃ a b, v = [a, b] := two_of_len (by simpa using hlen.symm)
      obtain ⟨x1, x2, rfl, t1, t2⟩ := RepSs.two r1
      exact ⟨x1, x2, rfl, h1 _ H1 F1 μ1 (Le.refl _) (Fp.pre.refl _) rfl ((((ml.mono l1).pre pr1).set t1).set t2) m1⟩
    · exact (show False from h1).elim
  · obtain ⟨a, b, c, rfl⟩ : ∃ a b c, ts = [a, b, c] := by
      match ts, h3 with
      | [a, b, c], _ => exact ⟨a, b, c, rfl⟩
    obtain ⟨e1, e2, e3, rfl⟩ : ∃ a b c, vs = [a, b, c] := by
      match vs, hvl with
      | [a, b, c], _ => exact ⟨a, b, c, rfl⟩
    obtain ⟨x, px, i, r, rfl, hx, hi, hr, rfl⟩ := locs_cons hl
    obtain ⟨y, py, j, r', rfl, hy, hj, hr', rfl⟩ := locs_cons hr
    obtain ⟨z, pz, k, r'', rfl, hz, hk, hr'', rfl⟩ := locs_cons hr'
    cases locs_nil hr''
    obtain ⟨x', y', z', q1, q2, q3, q4⟩ := filterMap_three hfl
    cases nmAt_name q1; cases nmAt_name q2; cases nmAt_name q3
    rw [hnm, q4] at hw
    have hn : i ≠ j ∧ i ≠ k ∧ j ≠ k := by
      simp at hnd
      exact ⟨hnd.1.1, hnd.1.2, hnd.2⟩
    refine PS.imp (ps_par3 g.calm g.nd (by rw [g.N]; exact ixOf_get hi) (by rw [g.N]; exact ixOf_get hj) (by rw [g.N]; exact ixOf_get hk) hn.1 hn.2.1 hn.2.2 (by rw [g.sc]; exact hx) (by rw [g.sc]; exact hy) (by rw [g.sc]; exact hz) hpa hw) fun D σ H hq => ?_
    obtain ⟨ρ, S, F, μ, ml, mh, hh⟩ := hq
    have hh : EndS X W fr μ F ((evN call nf es ρ S).st ρ fun vs S1 => if [i, j, k].length = vs.length then .nx (([i, j, k].zip vs).foldl (fun ρ p => ρ.set p.1 (some p.2)) ρ) S1 else .bad) D := hh
    refine tN_read es nf S F μ H _ ml mh (endN_of hh ml fun v S1 xv H1 F1 μ1 l1 pr1 e1 m1 r1 h1 => ?_)
    split at h1
    · rename_i hlen
      obtain ⟨v1, v2, v3, rfl⟩ : ∃ a b c, v = [a, b, c] := by
        match v, hlen with
        | [a, b, c], _ => exact ⟨a, b, c, rfl⟩
      obtain ⟨x1, x2, x3, rfl, t1, t2, t3⟩ := RepSs.three r1
      exact ⟨x1, x2, x3, rfl, h1 _ H1 F1 μ1 (Le.refl _) (Fp.pre.refl _) rfl (((((ml.mono l1).pre pr1).set t1).set t2).set t3) m1⟩
    · exact (show False from h1).elim

theorem snd_aug (g : Gd ci call kl anyCell W sc X) {fr : Bool} {x : Str} {i : Nat} {op : Operator} {e : Expr} {e' : DE} {px pos : Pos} (hx : nmOf ci sc x = some i) (he : PE X e (rdE X W (evE call e'))) (hop : op = .Add ∨ op = .Sub) :
    PS X (.AugAssign (.Name x px) op e pos) (rdS X W fr (evS call wf (.aug i op e'))) := by
  obtain ⟨h1, h2, h3⟩ := nmOf_loc g hx
  have go : ∀ f : Int → Int → Int, PIp X op (ipI f) → (∀ a b, binD op (.int a) (.int b) = some (.int (f a b))) → PS X (.AugAssign (.Name x px) op e pos) (rdS X W fr (evS call wf (.aug i op e'))) := fun f hip hf => by
    refine PS.imp (ps_aug g.nd h1 h2 he hip h3) fun D σ H hq => ?_
    obtain ⟨ρ, S, F, μ, ml, mh, hh⟩ := hq
    have hh : EndS X W fr μ F (match lget ρ i with
      | some (.p d) => (evE call e' ρ S).st ρ fun v S1 => match v with
        | .p e => (match d, e, binD op d e with
          | .int _, .int _, some r => .nx (ρ.set i (some (.p r))) S1
          | _, _, _ => .bad)
        | _ => .bad
      | _ => .bad) D := hh
    split at hh
    · rename_i d hd
      obtain ⟨y, y1, y2⟩ := ml.get hd
      refine ⟨y, y1, ρ, S, F, μ, ml, mh, hh.split ml fun v S1 xv H1 F1 _ l1 m1 r1 k1 => ?_⟩
      split at k1
      · rename_i e
        split at k1
        · rename_i a b r hb
          rw [hf] at hb
          cases hb
          have y3 : y = .int a := y2
          have r3 : xv = .int b := r1
          exact ⟨a, b, y3, r3, k1 _ H1 F1 μ (Le.refl _) (Fp.pre.refl _) rfl ((ml.mono l1).set rfl) m1⟩
        · exact (show False from k1).elim
      · exact (show False from k1).elim
    · exact (show False from hh).elim
  rcases hop with rfl | rfl
  · exact go _ ip_add fun _ _ => rfl
  · exact go _ ip_sub fun _ _ => rfl

theorem PSet.or {t t' : TSet} (h : PSet X t) (h' : PSet X t') : PSet X (fun o i v H Q => t o i v H Q ∨ t' o i v H Q) := fun pins s σ H o i v ov iv u Q I r1 r2 r3 q =>
  q.elim (h pins s σ H o i v ov iv u Q I r1 r2 r3) (h' pins s σ H o i v ov iv u Q I r1 r2 r3)
theorem set_dct (hu : X.A.units + 1 < cLine) : PSet X (fun o i v H Q => ∃ a H', o = .ref a ∧ DPut H a i v H' ∧ Q H') := by
  intro pins s σ H o i v ov iv u Q I r1 r2 r3 h
  obtain ⟨a, H', rfl, g, q⟩ := h
  cases r1
  exact d_setItem hu I g r2 r3 fun s4 I4 => ⟨H', I4, q⟩
theorem Reps.map2 {K : PySem.W.Frag} {F : Hp} : ∀ {ds : List D} {vs : List V}, Reps K F ds vs → ∀ {d : D} {v : V}, Reps K F (ds ++ [d]) (vs ++ [v]) ↔ Rep K F d v
  | [], _, h, d, v => by
    cases h
    exact ⟨fun ⟨_, _, e, r, _⟩ => by cases e; exact r, fun r => Reps.cons r rfl⟩
  | d0 :: ds, _, ⟨v0, vs, e, r0, r⟩, d, v => by
    subst e
    exact ⟨fun ⟨_, _, e, _, r'⟩ => by cases e; exact (Reps.map2 r).mp r', fun r' => Reps.cons r0 ((Reps.map2 r).mpr r')⟩
theorem zip_any {K : PySem.W.Frag} {F : Hp} {k : L2.Key} : ∀ {kvs : List (L2.Key × V)} {ds : List D}, Reps K F ds (kvs.map (·.2)) → (((kvs.map (·.1)).zip ds).any fun kv => decide (kv.1 = k)) = kvs.any fun kv => decide (kv.1 = k)
  | [], _, _ => by simp
  | p :: kvs, _, h => by
    cases ‹List D› with
    | nil => cases h
    | cons d ds =>
      obtain ⟨_, _, e, _, r⟩ := h
      simp only [List.map_cons, List.cons.injEq] at e
      obtain ⟨_, rfl⟩ := e
      simp only [List.map_cons, List.zip_cons_cons, List.any_cons, zip_any r]
theorem zip_repl {K : PySem.W.Frag} {F : Hp} {k : L2.Key} {d : D} {v : V} (rv : Rep K F d v) : ∀ {kvs : List (L2.Key × V)} {ds : List D}, Reps K F ds (kvs.map (·.2)) →
    (kvs.map fun kv => if kv.1 = k then (kv.1, v) else kv).map (·.1) = (((kvs.map (·.1)).zip ds).map fun kv => if kv.1 = k then (kv.1, d) else kv).map (·.1) ∧
    Reps K F ((((kvs.map (·.1)).zip ds).map fun kv => if kv.1 = k then (kv.1, d) else kv).map (·.2)) ((kvs.map fun kv => if kv.1 = k then (kv.1, v) else kv).map (·.2))
  | [], ds, h => by
    have : ds = [] := by
      cases ds with
      | nil => rfl
      | cons => obtain ⟨_, _, e, _⟩ := h; cases e
    subst this
    exact ⟨rfl, rfl⟩
  | p :: kvs, ds, h => by
    cases ds with
    | nil => cases h
    | cons d0 ds =>
      obtain ⟨_, _, e, r0, r⟩ := h
      simp only [List.map_cons, List.cons.injEq] at e
      obtain ⟨rfl, rfl⟩ := e
      obtain ⟨h1, h2⟩ := zip_repl (k := k) rv r
      by_cases hk : p.1 = k
      · constructor
        · simp only [List.map_cons, List.zip_cons_cons, hk, if_true]
          rw [h1]
        · simp only [List.map_cons, List.zip_cons_cons, hk, if_true]
          exact Reps.cons rv h2
      · constructor
        · simp only [List.map_cons, List.zip_cons_cons, hk, if_false]
          rw [h1]
        · simp only [List.map_cons, List.zip_cons_cons, hk, if_false]
          exact Reps.cons r0 h2
theorem zip_fst {K : PySem.W.Frag} {F : Hp} : ∀ {kvs : List (L2.Key × V)} {ds : List D}, Reps K F ds (kvs.map (·.2)) → ((kvs.map (·.1)).zip ds).map (·.1) = kvs.map (·.1) ∧ ((kvs.map (·.1)).zip ds).map (·.2) = ds
  | [], ds, h => by
    cases ds with
    | nil => exact ⟨rfl, rfl⟩
    | cons => obtain ⟨_, _, e, _⟩ := h; cases e
  | p :: kvs, ds, h => by
    cases ds with
    | nil => cases h
    | cons d0 ds =>
      obtain ⟨_, _, e, r0, r⟩ := h
      simp only [List.map_cons, List.cons.injEq] at e
      obtain ⟨rfl, rfl⟩ := e
      obtain ⟨h1, h2⟩ := zip_fst r
      simp only [List.map_cons, List.zip_cons_cons, h1, h2, and_self]
theorem dput_rep {K : PySem.W.Frag} {F H : Hp} {a : Addr} {kvs : List (L2.Key × V)} {ks : List L2.Key} {ds : List D} {k : L2.Key} {d : D} {v : V} (hH : H a = some (.dK (putK kvs k v))) (e : kvs.map (·.1) = ks) (r : Reps K F ds (kvs.map (·.2))) (rv : Rep K F d v) :
    CellIs K F H a (.dct (dput ks ds k d).1 (dput ks ds k d).2) := by
  subst e
  refine ⟨_, hH, ?_⟩
  unfold dput putZ putK
  rw [zip_any r]
  dsimp only
  split
  · obtain ⟨h1, h2⟩ := zip_repl (k := k) rv r
    exact ⟨h1, h2⟩
  · obtain ⟨h1, h2⟩ := zip_fst r
    simp only [List.map_append, List.map_cons, List.map_nil, h1, h2]
    exact ⟨trivial, r.append (Reps.cons rv rfl)⟩
theorem snd_setix (g : Gd ci call kl anyCell W sc X) {fr : Bool} {a i e : Expr} {a' i' e' : DE} {sp pos : Pos} (ha : PE X a (rdE X W (evE call a'))) (hi : PE X i (rdE X W (evE call i'))) (he : PE X e (rdE X W (evE call e'))) (hsl : isSlice i = false) :
    PS X (.Assign [.Subscript a i sp] e pos) (rdS X W fr (evS call wf (.setix a' i' e'))) := by
  refine PS.imp (ps_asg he (pg_sub ha hi (PSet.or set_list (set_dct (by have := g.room.un; omega))) (by intro _; cases i <;> first | rfl | cases hsl)) (by cases e <;> rfl) (by cases e <;> rfl) rfl) fun D σ H hq => ?_
  obtain ⟨ρ, S, F, μ, ml, mh, hh⟩ := hq
  have hh : EndS X W fr μ F ((evE call e' ρ S).st ρ fun v S1 => (evE call a' ρ S1).st ρ fun x S2 => (evE call i' ρ S2).st ρ fun y S3 => match v, x, y with
    | .p d, .c j, .p e => (match S3[j]? with
      | some (.lst xs) => (match e with
        | .int k => (match L2.ixN xs.length k with
          | some m => .nx ρ (S3.set j (.lst (xs.set m d)))
          | none => .bad)
        | _ => .bad)
      | some (.dct ks vs) => (match keyOf e with
        | some k => if ks.length < sizeLine then (match dput ks vs k d with
          | (ks', vs') => .nx ρ (S3.set j (.dct ks' vs'))) else .bad
        | none => .bad)
      | _ => .bad)
    | _, _, _ => .bad) D := hh
  refine ⟨ρ, S, F, μ, ml, mh, hh.split ml fun v S1 xv H1 F1 _ l1 m1 r1 h1 => ?_⟩
  refine ⟨ρ, S1, F1, μ, ml.mono l1, m1, h1.split (ml.mono l1) fun x S2 xx H2 F2 _ l2 m2 r2 h2 => ?_⟩
  refine ⟨ρ, S2, F2, μ, (ml.mono l1).mono l2, m2, h2.split ((ml.mono l1).mono l2) fun y S3 xy H3 F3 _ l3 m3 r3 h3 => ?_⟩
  split at h3
  · rename_i d j e _ _ hev
    clear hev
    obtain ⟨p, p1, rfl⟩ := r2
    have rv : Rep X.K F3 d xv := Rep.mono l3 (Rep.mono l2 r1)
    split at h3
    · rename_i xs hxs
      split at h3
      · rename_i k
        split at h3
        · rename_i m hm
          have r3' : xy = .int k := r3
          obtain ⟨vs, q1, q2⟩ := m3.cell j p _ p1 hxs
          exact .inl ⟨p, vs, k, m, rfl, r3', q1, by rw [q2.length]; exact hm, h3 _ _ F3 μ (Le.refl _) (Fp.pre.refl _) rfl (((ml.mono l1).mono l2).mono l3) (m3.put p1 (q2.set rv))⟩
        · exact (show False from h3).elim
      · exact (show False from h3).elim
    · rename_i ks ds hxs
      split at h3
      · rename_i k hk
        split at h3
        · rename_i hsz
          obtain ⟨kvs, q1, q2, q3⟩ := m3.cell j p _ p1 hxs
          refine .inr ⟨p, _, rfl, .inl ⟨kvs, k, q1, keyOf_rep r3 hk, by rw [← List.length_map (f := (·.1)), q2]; exact hsz, rfl⟩, ?_⟩
          exact h3 _ _ F3 μ (Le.refl _) (Fp.pre.refl _) rfl (((ml.mono l1).mono l2).mono l3) (m3.putC p1 (dput_rep upd_same q2 q3 rv))
        · exact (show False from h3).elim
      · exact (show False from h3).elim
    · exact (show False from h3).elim
  · exact (show False from h3).elim

theorem snd_app (g : Gd ci call kl anyCell W sc X) {fr : Bool} {o a : Expr} {o' a' : DE} {nm : Str} {apos cpos pos : Pos} (ho : PE X o (rdE X W (evE call o'))) (ha : SndL X W call [a] [a']) (hnm : nm = "append") (hline : (apos.endLine == cpos.line) = true) (hN : isNameE o = true) :
    PS X (.Expr (.Call (.Attribute o nm apos) [a] [] cpos) pos) (rdS X W fr (evS call wf (.app o' a'))) := by
  subst hnm
  have hst := ha.star (env := X.env)
  have hpe : PE X (.Call (.Attribute o "append" apos) [a] [] cpos) (tBM X.K "list" rAppend (rdE X W (evE call o')) (rdL X W (evL call [a']))) :=
    pe_bm PySem.F.plainAttrs_list PySem.F.slot_list_append PySem.F.type_list_append mt_append ho ha.pa (by cases o <;> first | rfl | cases hN)
      (by rw [hst]; rfl) hline (by rw [hst]; rfl) rfl
  refine PS.imp (ps_expr hpe (by rfl)) fun D σ H hq => ?_
  obtain ⟨ρ, S, F, μ, ml, mh, hh⟩ := hq
  have hh : EndS X W fr μ F ((evE call o' ρ S).st ρ fun x S1 => match x with
    | .c j => if isLst S1 j = true then (evE call a' ρ S1).st ρ fun v S2 => (match v with
      | .p d => (match S2[j]? with
        | some (.lst xs) => if xs.length < sizeLine then .nx ρ (S2.set j (.lst (xs ++ [d]))) else .bad
        | _ => .bad)
      | .c _ => .bad) else .bad
    | .p _ => .bad) D := hh
  refine ⟨ρ, S, F, μ, ml, mh, hh.split ml fun x S1 xv H1 F1 _ l1 m1 r1 h1 => ?_⟩
  cases x with
  | p d => exact (show False from h1).elim
  | c j =>
    obtain ⟨p, p1, rfl⟩ := r1
    dsimp only at h1
    by_cases hjl : isLst S1 j = true
    rotate_left
    · rw [if_neg hjl] at h1; exact (show False from h1).elim
    rw [if_pos hjl] at h1
    obtain ⟨vs0, t1⟩ := m1.thereL p1 hjl
    have hl : End X.K X.mg (WE W σ) μ (RpL X.K μ) F1 (evL call [a'] ρ S1) (fun xs H2 => rAppend (.ref p) xs H2 fun _ H1 => D.nx σ H1) := by
      rw [evL_one]
      have key : End X.K X.mg (WE W σ) μ (RpE X.K μ) F1 (evE call a' ρ S1) (fun b H2 => rAppend (.ref p) [b] H2 fun _ H1 => D.nx σ H1) := by
        refine h1.split (ml.mono l1) fun v S2 b H2 F2 _ l2 m2 r2 h2 => ?_
        cases v with
        | c _ => exact (show False from h2).elim
        | p d =>
          dsimp only at h2
          split at h2
          · rename_i xs hxs
            split at h2
            · rename_i hsz
              obtain ⟨vs, q1, q2⟩ := m2.cell j p _ p1 hxs
              exact ⟨p, vs, b, rfl, rfl, q1, by rw [q2.length]; exact hsz, h2 _ _ F2 μ (Le.refl _) (Fp.pre.refl _) rfl ((ml.mono l1).mono l2) (m2.put p1 (q2.append (Reps.cons r2 rfl)))⟩
            · exact (show False from h2).elim
          · exact (show False from h2).elim
      cases ev : evE call a' ρ S1 with
      | bad => rw [ev] at key; exact key
      | exc e S2 => rw [ev] at key; exact key
      | ok v S2 =>
        rw [ev] at key
        intro bs H2 F2 l2 m2 r2
        obtain ⟨b, rfl, r3⟩ := RepSs.one r2
        exact key b H2 F2 l2 m2 r3
    exact ⟨.inl ⟨rfl, vs0, .of t1⟩, ρ, S1, F1, μ, ml.mono l1, m1, hl⟩
end
end DV

set_option Elab.async false
set_option linter.all false
set_option maxRecDepth 100000
set_option maxHeartbeats 4000000
/-! DV12: loops, blocks, all statements. -/
namespace DV
open PySem PySem.Spec PyProof.Rows L2
section
variable {ci : CI} {si : SI} {call : CallF} {wf kl : Nat} {W : WX} {sc : Scope} {X : Cx}

theorem snd_for (g : GdS ci call kl W sc X) {fr : Bool} {n : Nat} {tg iter : Expr} {body : List Stmt} {t : DT} {args : List DE} {b : List DS} {pos : Pos}
    (ht : compT ci anyCell n sc tg = some t) (ha : SndL X W call (iterK ci sc tg iter).2 args) (hns : ∀ es k p, iter ≠ .Set es k p) (hb : PSs X body (rdS X W fr (evB call wf b))) :
    PS X (.For tg iter body [] pos) (rdS X W fr (evS call wf (.for t (iterK ci sc tg iter).1 args b))) := by
  refine PS.imp (ps_for g.own g.g.calm (snd_iter g.g ha) (snd_T g.g n ht) hb (folded_of hns)) fun D σ H hq => ?_
  obtain ⟨ρ, S, F, μ, ml, mh, hh⟩ := hq
  have hh : EndS X W fr μ F ((evL call args ρ S).st ρ fun vs S1 => match itemsOf (iterK ci sc tg iter).1 vs S1 with
    | some (ds, Wt) => forL t (evB call wf b) Wt ds ρ S1
    | none => .bad) D := hh
  have e1 : ((evL call args ρ S).st ρ fun vs S1 => match itemsOf (iterK ci sc tg iter).1 vs S1 with
      | some (ds, Wt) => forL t (evB call wf b) Wt ds ρ S1
      | none => .bad) = ((evI call (iterK ci sc tg iter).1 args ρ S).st ρ fun dw S1 => forL t (evB call wf b) dw.2 dw.1 ρ S1) := by
    unfold evI
    cases evL call args ρ S with
    | bad => rfl
    | exc x S1 => rfl
    | ok vs S1 =>
      simp only [R.st_ok, R.bind_ok]
      cases itemsOf (iterK ci sc tg iter).1 vs S1 <;> rfl
  rw [e1] at hh
  refine ⟨ρ, S, F, μ, ml, mh, hh.split ml fun dw S1 J H1 F1 _ l1 m1 r1 h1 => ?_⟩
  obtain ⟨ds, Wt⟩ := dw
  dsimp only at h1 r1
  refine ⟨fun i m σ H => ∃ ρ S F' μ', Le F1 F' ∧ μ.pre μ' ∧ μ'.P = μ.P ∧ Ml X.K σ ρ F' μ' ∧ Mh X.K H S F' μ' ∧ i ≤ ds.length ∧ m = ds.length - i ∧ EndS X W fr μ' F' (forL t (evB call wf b) Wt (ds.drop i) ρ S) D, ⟨_, ρ, S1, F1, μ, Le.refl _, Fp.pre.refl _, rfl, ml.mono l1, m1, Nat.zero_le _, rfl, by rw [List.drop_zero]; exact h1⟩, ?_⟩
  rintro i m σ' H' ⟨ρ', S', F', μ', l', p', e', ml', mh', hi, hm, hw⟩
  rcases Nat.lt_or_eq_of_le hi with hlt | heq
  · right
    rw [List.drop_eq_getElem_cons hlt] at hw
    unfold forL at hw
    split at hw
    · rename_i hwt
      split at hw
      · rename_i ρ2 hbd
        obtain ⟨go, _⟩ := r1 i H' S' F' μ' l' p' mh' hwt
        obtain ⟨go1, go2⟩ := go ds[i] (List.getElem?_eq_getElem hlt)
        refine ⟨go1, fun σ H => ∃ ρ S F' μ', Le F1 F' ∧ μ.pre μ' ∧ μ'.P = μ.P ∧ Ml X.K σ ρ F' μ' ∧ Mh X.K H S F' μ' ∧ EndS X W fr μ' F' (forL t (evB call wf b) Wt (ds.drop (i + 1)) ρ S) D, ?_, ?_⟩
        · rintro σ3 H3 ⟨ρ3, S3, F3, μ3, q1, q2, q3, q4, q5, q6⟩
          exact ⟨ds.length - (i + 1), by omega, ρ3, S3, F3, μ3, q1, q2, q3, q4, q5, hlt, rfl, q6⟩
        · intro x H'' hy
          obtain ⟨F'', l'', mh'', rp⟩ := go2 x H'' hy
          refine ⟨.p ds[i], ρ', S', F'', μ', ρ2, ml'.mono l'', mh'', rp, hbd, fun σ'' ml'' _ => ?_⟩
          refine ⟨ρ2, S', F'', μ', ml'', mh'', ?_⟩
          refine (EndS.mono hw l'' (Fp.pre.refl _) rfl).turn (fun ρ3 S3 σ3 H3 F3 μ3 l3 p3 e3 ml3 mh3 h3 => ?_) rfl rfl
          have : ∃ ρ S F' μ', Le F1 F' ∧ μ.pre μ' ∧ μ'.P = μ.P ∧ Ml X.K σ3 ρ F' μ' ∧ Mh X.K H3 S F' μ' ∧ EndS X W fr μ' F' (forL t (evB call wf b) Wt (ds.drop (i + 1)) ρ S) D :=
            ⟨ρ3, S3, F3, μ3, (l'.trans l'').trans l3, p'.trans p3, e3.trans e', ml3, mh3, h3⟩
          exact ⟨this, this⟩
      · exact (show False from hw).elim
    · exact (show False from hw).elim
  · left
    rw [heq, List.drop_length] at hw
    unfold forL at hw
    split at hw
    · rename_i hwt
      obtain ⟨_, st⟩ := r1 i H' S' F' μ' l' p' mh' hwt
      exact ⟨st heq, hw σ' H' F' μ' (Le.refl _) (Fp.pre.refl _) rfl ml' mh'⟩
    · exact (show False from hw).elim

theorem snd_while (g : GdS ci call kl W sc X) {fr : Bool} {c : Expr} {c' : DE} {body : List Stmt} {b : List DS} {pos : Pos} (hc : PT X c (rdT X W (evT call c'))) (hb : PSs X body (rdS X W fr (evB call wf b))) :
    PS X (.While c body [] pos) (rdS X W fr (evS call wf (.while c' b))) := by
  refine PS.imp (ps_while g.own hc hb) fun D σ H hq => ?_
  obtain ⟨ρ, S, F, μ, ml, mh, hh⟩ := hq
  have hh : EndS X W fr μ F (whileL (evT call c') (evB call wf b) wf ρ S) D := hh
  refine ⟨fun m σ H => ∃ ρ S F' μ', Ml X.K σ ρ F' μ' ∧ Mh X.K H S F' μ' ∧ EndS X W fr μ' F' (whileL (evT call c') (evB call wf b) m ρ S) D, ⟨wf, ρ, S, F, μ, ml, mh, hh⟩, ?_⟩
  rintro m σ' H' ⟨ρ', S', F', μ', ml', mh', hw⟩
  cases m with
  | zero => exact (show False from hw).elim
  | succ m =>
    unfold whileL at hw
    refine ⟨ρ', S', F', μ', ml', mh', hw.split ml' fun k S1 kb H1 F1 _ l1 m1 r1 h1 => ?_⟩
    cases (show k = kb from r1)
    cases k with
    | false => exact h1 σ' H1 F1 μ' (Le.refl _) (Fp.pre.refl _) rfl (ml'.mono l1) m1
    | true =>
      rw [if_pos rfl] at h1 ⊢
      refine ⟨fun σ H => ∃ ρ S F' μ', Ml X.K σ ρ F' μ' ∧ Mh X.K H S F' μ' ∧ EndS X W fr μ' F' (whileL (evT call c') (evB call wf b) m ρ S) D, fun σ3 H3 h3 => ⟨m, Nat.lt_succ_self m, h3⟩, ρ', S1, F1, μ', ml'.mono l1, m1, ?_⟩
      refine h1.turn (fun ρ3 S3 σ3 H3 F3 μ3 l3 p3 e3 ml3 mh3 h3 => ?_) rfl rfl
      exact ⟨⟨ρ3, S3, F3, μ3, ml3, mh3, h3⟩, ⟨ρ3, S3, F3, μ3, ml3, mh3, h3⟩⟩

/-- each of the statements -/
inductive SndS (X : Cx) (W : WX) (fr : Bool) (call : CallF) (wf : Nat) : List Stmt → List DS → Prop
  | nil : SndS X W fr call wf [] []
  | cons {s : Stmt} {ss : List Stmt} {d : DS} {ds : List DS} (h : PS X s (rdS X W fr (evS call wf d))) (t : SndS X W fr call wf ss ds) : SndS X W fr call wf (s :: ss) (d :: ds)
theorem SndS.pss {fr : Bool} {ss : List Stmt} {ds : List DS} (h : SndS X W fr call wf ss ds) : PSs X ss (rdS X W fr (evB call wf ds)) := by
  induction h with
  | nil =>
    refine PSs.imp pss_nil fun D σ H hq => ?_
    obtain ⟨ρ, S, F, μ, ml, mh, hh⟩ := hq
    exact (show ∀ σ' H' F' μ', _ → _ → _ → _ → _ → D.nx σ' H' from hh) σ H F μ (Le.refl _) (Fp.pre.refl _) rfl ml mh
  | @cons s ss d ds h t ih =>
    refine PSs.imp (pss_cons h ih) fun D σ H hq => ?_
    obtain ⟨ρ, S, F, μ, ml, mh, hh⟩ := hq
    have hh : EndS X W fr μ F ((evS call wf d ρ S).seq fun ρ S => evB call wf ds ρ S) D := hh
    exact ⟨ρ, S, F, μ, ml, mh, hh.seq (fun ρ' S' σ' H' F' μ' l p e ml' mh' h' => ⟨ρ', S', F', μ', ml', mh', h'⟩) rfl rfl rfl⟩
theorem optAll_sndS {fr : Bool} {n : Nat} (ih : ∀ {s : Stmt} {d : DS}, compS ci si n sc s = some d → PS X s (rdS X W fr (evS call wf d))) : ∀ {ss : List Stmt} {ds : List DS}, optAll (compS ci si n sc) ss = some ds → SndS X W fr call wf ss ds
  | [], _, h => by cases h; exact .nil
  | s :: ss, _, h => by
    obtain ⟨b, r, h1, h2, rfl⟩ := optAll_cons h
    exact .cons (ih h1) (optAll_sndS ih h2)
theorem EndS.ret1 {fr : Bool} {μ : Fp} {F : Hp} {v : Sv} {S : Store} {D : Ends} (h : EndS X W fr μ F (.ret v S) D) {b : V} {H' : Hp} (mh : Mh X.K H' S F μ) (r : if fr then RepF X.K μ F H' v b else RepS X.K F μ v b) : D.rt b H' := h b H' F μ (Le.refl _) (Fp.pre.refl _) rfl mh r

theorem snd_S (g : GdS ci call kl W sc X) : ∀ (n : Nat) (s : Stmt) (d : DS), compS ci si n sc s = some d → PS X s (rdS X W si.fr (evS call wf d))
  | 0, _, _, h => by cases h
  | n + 1, s, d, h => by
    have ihE : ∀ {e : Expr} {e' : DE}, compE ci n sc e = some e' → PE X e (rdE X W (evE call e')) := fun {e e'} h => PE.frz (snd_E n sc anyCell W X g.g e e' h).1
    have ihT : ∀ {e : Expr} {e' : DE}, compE ci n sc e = some e' → PT X e (rdT X W (evT call e')) := fun {e e'} h => (snd_E n sc anyCell W X g.g e e' h).2
    have ihL : ∀ {ss : List Stmt} {ds : List DS}, optAll (compS ci si n sc) ss = some ds → PSs X ss (rdS X W si.fr (evB call wf ds)) := fun {ss ds} h => (optAll_sndS (fun {s d} h => snd_S g n s d h) h).pss
    cases s with
    | Assign tgs e pos =>
      simp only [compS] at h
      split at h
      · split at h
        · simp only [Option.bind_eq_some_iff, Option.map_eq_some_iff] at h
          obtain ⟨i, hi, e', he, h⟩ := h
          split at h
          · cases h
          rename_i hlv
          have hlv : isLcv e' = false := by simpa using hlv
          cases h
          split
          · rename_i hc
            exact snd_new g.g hi he hc.2 hlv
          · exact snd_asgN g.g hi he hlv
        · split at h
          · split at h
            · cases h
            · rename_i hsw
              simp only [Option.bind_eq_some_iff, Option.map_eq_some_iff] at h
              obtain ⟨t, ht, e', he, rfl⟩ := h
              exact snd_asgT g.g ht he (swap_of g.g.sc hsw)
            · rename_i hsw
              simp only [Option.bind_eq_some_iff] at h
              obtain ⟨is, his, h⟩ := h
              split at h
              · rename_i hnd
                simp only [Option.map_eq_some_iff] at h
                obtain ⟨es, hes, rfl⟩ := h
                split
                · exact snd_parN g.g hsw his hnd hes
                · exact snd_par g.g hsw his hnd hes
              · cases h
          · rename_i hne
            simp only [Option.bind_eq_some_iff, Option.map_eq_some_iff] at h
            obtain ⟨t, ht, e', he, rfl⟩ := h
            refine snd_asgT g.g ht he (swap_none ?_)
            cases e <;> first | rfl | exact absurd rfl (hne _ _ _)
        · split at h
          · cases h
          · rename_i hsl
            simp only [Option.bind_eq_some_iff, Option.map_eq_some_iff] at h
            obtain ⟨e', he, a', ha, i', hi, rfl⟩ := h
            exact snd_setix g.g (ihE ha) (ihE hi) (ihE he) (by simpa using hsl)
        · cases h
      · cases h
    | AugAssign tg op e pos =>
      simp only [compS] at h
      split at h
      · simp only [Option.bind_eq_some_iff, Option.map_eq_some_iff] at h
        obtain ⟨i, hi, e', he, rfl⟩ := h
        exact snd_aug g.g hi (ihE he) (.inl rfl)
      · simp only [Option.bind_eq_some_iff, Option.map_eq_some_iff] at h
        obtain ⟨i, hi, e', he, rfl⟩ := h
        exact snd_aug g.g hi (ihE he) (.inr rfl)
      · cases h
    | Expr e pos =>
      have plain : ∀ {e' : DE}, isLC e = false → compE ci n sc e = some e' → PS X (.Expr e pos) (rdS X W si.fr (evS call wf (.expr e'))) := fun {e'} hl he => by
        refine PS.imp (ps_expr (ihE he) (by cases e <;> first | rfl | cases hl)) fun D σ H hq => ?_
        obtain ⟨ρ, S, F, μ, ml, mh, hh⟩ := hq
        have hh : EndS X W si.fr μ F ((evE call e' ρ S).st ρ fun _ S1 => .nx ρ S1) D := hh
        exact ⟨ρ, S, F, μ, ml, mh, hh.split ml fun v S1 xv H1 F1 _ l1 m1 r1 h1 => h1 σ H1 F1 μ (Le.refl _) (Fp.pre.refl _) rfl (ml.mono l1) m1⟩
      simp only [compS] at h
      split at h
      · split at h
        · rename_i hc
          simp only [Option.bind_eq_some_iff, Option.map_eq_some_iff] at h
          obtain ⟨o', ho, a', ha, rfl⟩ := h
          exact snd_app g.g (ihE ho) (.cons (fun b p z => by rw [z, compE_star] at ha; cases ha) (ihE ha) .nil) hc.1 hc.2.1 hc.2.2
        · cases h
      · split at h
        · cases h
        · rename_i hl
          simp only [Option.map_eq_some_iff] at h
          obtain ⟨e', he, rfl⟩ := h
          exact plain (by simpa using hl) he
    | Return e pos =>
      simp only [compS] at h
      split at h
      · cases h
        refine PS.imp ps_retN fun D σ H hq => ?_
        obtain ⟨ρ, S, F, μ, ml, mh, hh⟩ := hq
        refine EndS.ret1 (b := V.non) (show EndS X W si.fr μ F (.ret (.p .non) S) D from hh) mh ?_
        cases si.fr <;> exact rfl
      · rename_i e
        simp only [Option.map_eq_some_iff] at h
        obtain ⟨e', he, rfl⟩ := h
        split
        · rename_i hf
          have k := (snd_E n sc anyCell W X g.g e e' he).1
          refine PS.imp (ps_ret k) fun D σ H hq => ?_
          obtain ⟨ρ, S, F, μ, ml, mh, hh⟩ := hq
          have hh : EndS X W si.fr μ F ((evE call e' ρ S).st ρ fun v S1 => match v with
            | .p d => if frsh e' then .ret (.p d) S1 else .bad
            | .c i => .ret (.c i) S1) D := hh
          rw [hf] at hh
          show rd (frsh e') X W (evE call e') σ H D.rt
          cases hfe : frsh e' with
          | true =>
            refine ⟨ρ, S, F, μ, ml, mh, hh.split ml fun v S1 xv H1 F1 _ l1 m1 r1 h1 => ?_⟩
            cases v with
            | c i => exact h1.ret1 m1 r1
            | p d =>
              simp only [hfe, if_true] at h1
              exact h1.ret1 m1 r1
          | false =>
            refine ⟨ρ, S, F, μ, ml, mh, hh.split ml fun v S1 xv H1 F1 _ l1 m1 r1 h1 => ?_⟩
            cases v with
            | c i => exact h1.ret1 m1 r1
            | p d =>
              simp only [hfe, Bool.false_eq_true, if_false] at h1
              exact (show False from h1).elim
        · rename_i hf
          refine PS.imp (ps_ret (ihE he)) fun D σ H hq => ?_
          obtain ⟨ρ, S, F, μ, ml, mh, hh⟩ := hq
          have hh : EndS X W si.fr μ F ((evE call e' ρ S).st ρ fun v S1 => .ret v S1) D := hh
          rw [show si.fr = false by simpa using hf] at hh
          exact ⟨ρ, S, F, μ, ml, mh, hh.split ml fun v S1 xv H1 F1 _ l1 m1 r1 h1 => h1.ret1 m1 r1⟩
    | If c a b pos =>
      simp only [compS, Option.bind_eq_some_iff, Option.map_eq_some_iff] at h
      obtain ⟨c', hc, a', ha, b', hb, rfl⟩ := h
      refine PS.imp (ps_if (ihT hc) (ihL ha) (ihL hb)) fun D σ H hq => ?_
      obtain ⟨ρ, S, F, μ, ml, mh, hh⟩ := hq
      have hh : EndS X W si.fr μ F ((evT call c' ρ S).st ρ fun k S1 => if k = true then evB call wf a' ρ S1 else evB call wf b' ρ S1) D := hh
      refine ⟨ρ, S, F, μ, ml, mh, hh.split ml fun v S1 xv H1 F1 _ l1 m1 r1 h1 => ?_⟩
      cases (show v = xv from r1)
      cases v with
      | true => exact ⟨ρ, S1, F1, μ, ml.mono l1, m1, h1⟩
      | false => exact ⟨ρ, S1, F1, μ, ml.mono l1, m1, h1⟩
    | For tg iter body orelse pos =>
      simp only [compS] at h
      split at h
      · simp only [Option.bind_eq_some_iff, Option.map_eq_some_iff] at h
        obtain ⟨t, ht, args, ha, b, hb, rfl⟩ := h
        refine snd_for g ht (optAll_sndL ihE ha) (fun es k p z => ?_) (ihL hb)
        subst z
        obtain ⟨b, r, q1, _, _⟩ := optAll_cons (show optAll (compE ci n sc) [.Set es k p] = some args from ha)
        rw [compE_set] at q1; cases q1
      · cases h
    | While c body orelse pos =>
      simp only [compS] at h
      split at h
      · simp only [Option.bind_eq_some_iff, Option.map_eq_some_iff] at h
        obtain ⟨c', hc, b, hb, rfl⟩ := h
        exact snd_while g (ihT hc) (ihL hb)
      · cases h
    | Pass pos =>
      cases h
      refine PS.imp ps_pass fun D σ H hq => ?_
      obtain ⟨ρ, S, F, μ, ml, mh, hh⟩ := hq
      exact (show ∀ σ' H' F' μ', _ → _ → _ → _ → _ → D.nx σ' H' from hh) σ H F μ (Le.refl _) (Fp.pre.refl _) rfl ml mh
    | Break pos =>
      cases h
      refine PS.imp ps_break fun D σ H hq => ?_
      obtain ⟨ρ, S, F, μ, ml, mh, hh⟩ := hq
      exact (show ∀ σ' H' F' μ', _ → _ → _ → _ → _ → D.bk σ' H' from hh) σ H F μ (Le.refl _) (Fp.pre.refl _) rfl ml mh
    | Continue pos =>
      cases h
      refine PS.imp ps_continue fun D σ H hq => ?_
      obtain ⟨ρ, S, F, μ, ml, mh, hh⟩ := hq
      exact (show ∀ σ' H' F' μ', _ → _ → _ → _ → _ → D.ct σ' H' from hh) σ H F μ (Le.refl _) (Fp.pre.refl _) rfl ml mh
    | Raise a b pos =>
      cases h
      refine PS.imp ps_never fun D σ H hq => ?_
      obtain ⟨ρ, S, F, μ, ml, mh, hh⟩ := hq
      exact (show False from hh).elim
    | _ => cases h
end
end DV

set_option Elab.async false
set_option linter.all false
set_option maxRecDepth 100000
set_option maxHeartbeats 4000000
/-! DV13: defs; the table of a text; the law's end. -/
namespace DV
open PySem PySem.Spec PyProof.Rows L2

/-- a def of the text: its statement, its names, its parameters, the names that hold cells, whether its list is new, its body -/
structure Dn where
  st : Stmt
  N : List Str
  ps : List Str
  mks : List Str
  fr : Bool
  body : List DS
abbrev Tb := List (Str × Dn)
def Dn.df (d : Dn) : Df := ⟨d.ps.length, d.N.length, d.fr, d.body⟩
def Tb.tab (t : Tb) : Tab := t.map fun p => (p.1, p.2.df)
def Tb.ci (t : Tb) (bis : List Str) (cs : List (Str × D)) (gc : List Str) (N : List Str) : CI := ⟨N, t.map fun p => (p.1, (p.2.ps.length, p.2.fr)), bis, cs, gc⟩
theorem lookup_map {α β : Type} (f : α → β) : ∀ (l : List (Str × α)) (x : Str), (l.map fun p => (p.1, f p.2)).lookup x = (l.lookup x).map f
  | [], _ => rfl
  | (y, a) :: l, x => by
    simp only [List.map_cons, List.lookup_cons]
    cases x == y
    · exact lookup_map f l x
    · rfl
structure DnOk (t : Tb) (bis : List Str) (cs : List (Str × D)) (gc : List Str) (x : Str) (d : Dn) : Prop where
  sc : FnScope d.N d.ps (defScope d.st)
  body : optAll (compS (t.ci bis cs gc d.N) ⟨d.mks, d.fr⟩ 40 (defScope d.st)) (defBody d.st) = some d.body
  bind : ∀ (kV doc pm : Value) (an : Option Addr) (cdv ct : Value) (us : List Value), us.length = d.ps.length → bindArgs (PySem.W.fnOf x x (defArgs d.st) (defBody d.st) (defScope d.st) .none kV doc pm an cdv ct) ⟨us, []⟩ = pure (d.ps.zip us)
/-- what the top has written -/
structure Wl (t : Tb) (bis : List Str) (cs : List (Str × D)) (gc : List Str) (K : PySem.W.Frag) (mg : Str → Option Value) : Prop where
  fn : ∀ x d, t.lookup x = some d → ∃ a fd, mg x = some (.ref a) ∧ Fun K x x d.st a fd
  bis : ∀ b ∈ bis, mg b = none
  gcds : ∀ b ∈ gc, mg b = some (.builtin "math.gcd")
  consts : ∀ x d, cs.lookup x = some d → ∃ u v, mg x = some u ∧ RelV v u ∧ ∀ F, Rep K F d v

section
variable {t : Tb} {bis gc : List Str} {cs : List (Str × D)} {K : PySem.W.Frag} {mg : Str → Option Value} {P : Program} {w : World} {base : Heap} {wf : Nat}
theorem Fp.take_pre {μ μ' : Fp} (p : μ.pre μ') (e : μ'.P = μ.P) {n : Nat} (h : n = μ.cs.length) : μ'.take n = μ := by
  obtain ⟨ν, q⟩ := p
  cases μ; cases μ'
  simp only [Fp.take] at *
  subst h; subst q; subst e
  simp
theorem RepSs.get {F : Hp} {μ : Fp} : ∀ {vs : List Sv} {xs : List V} {i : Nat} {v : Sv}, RepSs K F μ vs xs → vs[i]? = some v → ∃ x, xs[i]? = some x ∧ RepS K F μ v x
  | [], _, _, _, _, e => by simp at e
  | d :: ds, _, 0, _, ⟨v, vs, ev, h, r⟩, e => by subst ev; simp at e; subst e; exact ⟨v, rfl, h⟩
  | d :: ds, _, i + 1, _, ⟨v, vs, ev, h, r⟩, e => by
    subst ev
    obtain ⟨w, h1, h2⟩ := RepSs.get (i := i) r (by simpa using e)
    exact ⟨w, by simpa using h1, h2⟩
theorem ml_start {F : Hp} {μ : Fp} {N : List Str} {vs : List Sv} {xs : List V} (r : RepSs K F μ vs xs) (n : Nat) (hn : vs.length = n) : Ml K (L2.start N xs) (vs.map some ++ List.replicate (N.length - n) none) F μ := by
  have hl := r.length
  subst hn
  refine ⟨by simp [L2.start, hl], fun i v e => ?_⟩
  by_cases hi : i < vs.length
  · rw [List.getElem?_append_left (by simpa using hi), List.getElem?_map] at e
    cases q : vs[i]? with
    | none => rw [q] at e; cases e
    | some u =>
      rw [q] at e
      simp at e; subst e
      obtain ⟨x, h1, h2⟩ := r.get q
      refine ⟨x, ?_, h2⟩
      unfold L2.start
      rw [List.getElem?_append_left (by simp; omega), List.getElem?_map, h1]
      rfl
  · rw [List.getElem?_append_right (by simpa using hi), List.getElem?_replicate] at e
    split at e <;> cases e
/-- behind a body -/
theorem end_of {X : Cx} {E : XK} {fr : Bool} {μ : Fp} {F : Hp} {r : SR} {n : Nat} {Q : VK} (hK : X.K = K) (hmg : X.mg = mg) (hn : n = μ.cs.length) (h : End K mg E μ (if fr then RpF K μ else RpE K μ) F (finishR fr n r) Q) :
    EndS X (fun cls d _ H => E cls d H) fr μ F r { nx := fun _ H' => Q .non H', rt := Q } := by
  subst hK; subst hmg
  cases r with
  | nx ρ S =>
    intro σ' H' F' μ' l p e ml mh
    have m := mh.cut n
    rw [Fp.take_pre p e hn] at m
    exact (show ∀ b H' F', _ → _ → _ → Q b H' from h) .non H' F' l m (by cases fr <;> exact rfl)
  | bk ρ S => exact (show False from h).elim
  | ct ρ S => exact (show False from h).elim
  | bad => exact (show False from h).elim
  | exc x ρ S =>
    intro σ' H' F' μ' cls d l p e ml mh hx
    have m := mh.cut n
    rw [Fp.take_pre p e hn] at m
    exact (show ∀ H' F' cls d, _ → _ → _ → E cls d H' from h) H' F' cls d l m hx
  | ret v S =>
    intro b H' F' μ' l p e mh rp
    have m := mh.cut n
    rw [Fp.take_pre p e hn] at m
    have h : End X.K X.mg E μ (if fr then RpF X.K μ else RpE X.K μ) F (finish fr n v S) Q := h
    cases v with
    | p d =>
      have h : ∀ b H' F', Le F F' → Mh X.K H' (S.take n) F' μ → (if fr then RpF X.K μ else RpE X.K μ) F' H' (.p d) b → Q b H' := h
      refine h b H' F' l m ?_
      cases fr with
      | false => exact rp
      | true =>
        simp only [if_true] at rp ⊢
        cases d with
        | lst ds =>
          obtain ⟨a, vs, e1, q1, q2, q3, q4, q5⟩ := rp
          obtain ⟨ν, hν⟩ := p
          exact ⟨a, vs, e1, q1, q2, fun z => q3 (by rw [hν]; exact List.mem_append_left _ z), by rw [← e]; exact q4, q5⟩
        | dct ks ds =>
          obtain ⟨a, vs, e1, q1, q2, q3, q4, q5⟩ := rp
          obtain ⟨ν, hν⟩ := p
          exact ⟨a, vs, e1, q1, q2, fun z => q3 (by rw [hν]; exact List.mem_append_left _ z), by rw [← e]; exact q4, q5⟩
        | _ => exact rp
    | c i =>
      have rp' : RepS X.K F' μ' (.c i) b := by cases fr <;> exact rp
      obtain ⟨a, ha, rfl⟩ := rp'
      have hfin : finish fr n (.c i) S = if i < n then (if fr then .bad else .ok (.c i) (S.take n)) else match S[i]? with
        | some (.lst xs) => .ok (.p (.lst xs)) (S.take n)
        | _ => .bad := rfl
      rw [hfin] at h
      rcases Nat.lt_or_ge i n with hi | hi
      · rw [if_pos hi] at h
        cases fr with
        | true => exact (show False from h).elim
        | false =>
          refine (show ∀ b H' F', _ → _ → RepS X.K F' μ (.c i) b → Q b H' from h) _ H' F' l m ⟨a, ?_, rfl⟩
          obtain ⟨ν, hν⟩ := p
          rw [hν, List.getElem?_append_left (by omega)] at ha
          exact ha
      · rw [if_neg (Nat.not_lt.mpr hi)] at h
        cases hxs : S[i]? with
        | none => rw [hxs] at h; exact (show False from h).elim
        | some cc =>
          cases cc with
          | dct ks vs => rw [hxs] at h; exact (show False from h).elim
          | lst xs =>
            rw [hxs] at h
            dsimp only at h
            obtain ⟨vs, q1, q2⟩ := mh.cell i a _ ha hxs
            have hmem : a ∈ μ'.cs := List.mem_iff_getElem?.mpr ⟨i, ha⟩
            have hnot : a ∉ μ.cs := fun z => by
              obtain ⟨j, hj⟩ := List.mem_iff_getElem?.mp z
              have hjl := (List.getElem?_eq_some_iff.mp hj).1
              have hj' := p.get hj
              obtain ⟨h1, g1⟩ := List.getElem?_eq_some_iff.mp ha
              obtain ⟨h2, g2⟩ := List.getElem?_eq_some_iff.mp hj'
              have := (List.getElem_inj mh.nd).mp (g1.trans g2.symm)
              omega
            have hF := mh.off a hmem
            have hP : μ.P a = none := by
              cases q : μ.P a with
              | none => rfl
              | some o => exact absurd hmem (mh.gf a o (by rw [e]; exact q)).2
            cases fr with
            | false =>
              refine (show ∀ b H' F', _ → _ → Rep X.K F' (.lst xs) b → Q b H' from h) _ H' (upd F' a (.lst vs)) (l.trans (Le.upd hF)) (m.freeze q1 hF hnot hP) ⟨a, vs, rfl, upd_same, q2.mono (Le.upd hF)⟩
            | true =>
              exact (show ∀ b H' F', _ → _ → RepF X.K μ F' H' (.p (.lst xs)) b → Q b H' from h) _ H' F' l m ⟨a, vs, rfl, q1, hF, hnot, hP, q2⟩

theorem spD_len {call : CallF} {x : Str} {ar : Nat} {fr : Bool} {vs : List V} {H : Hp} {Q : VK} {E : XK} (h : spD K mg call x ar fr vs H Q E) : vs.length = ar := by
  obtain ⟨F, μ, S, ds, h1, _, h2, _⟩ := h
  rw [h2.length, h1]
/-- ALL DEFS of the text keep their promises -/
theorem fn_ok (wl : Wl t bis cs gc K mg) (ok : ∀ x d, t.lookup x = some d → DnOk t bis cs gc x d) : ∀ (k : Nat) (x : Str) (d : Dn), t.lookup x = some d → ∀ a fd, mg x = some (.ref a) → Fun K x x d.st a fd →
    FnOk P w K mg base (L2.CX P w) k a fd d.ps (spD K mg (callF t.tab wf k) x d.ps.length d.fr)
  | 0, x, d, hx, a, fd, hm, F => by
    refine ⟨fun vs H Q E h => spD_len h, fun A outer s H args us vs Q E hr he hb hv hs => ?_⟩
    obtain ⟨_, _, _, _, _, _, _, h⟩ := hs
    exact (show False from h).elim
  | k + 1, x, d, hx, a, fd, hm, F => by
    have o := ok x d hx
    refine F.okX o.sc (fun vs H Q E h => spD_len h) fun cdv A outer s H vs Q E hr hsp => ?_
    obtain ⟨F0, μ, S, ds, hlen, mh, rs, hend⟩ := hsp
    have g : GdS (t.ci bis cs gc d.N) (callF t.tab wf k) k (fun cls dd _ H => E cls dd H) (defScope d.st) (cxOf (L2.CX P w) P w K mg base d.N x (defScope d.st) a cdv A outer s H E) := by
      refine ⟨⟨rfl, o.sc.nd, rfl, rfl, fun _ _ => rfl, takes_of rfl rfl rfl rfl, hr, fun f ar fr hf => ?_, wl.bis, wl.gcds, wl.consts⟩, passes_of rfl, o.sc.kind⟩
      have hf' : (t.lookup f).map (fun p : Dn => (p.ps.length, p.fr)) = some (ar, fr) := by
        rw [← lookup_map]; exact hf
      simp only [Option.map_eq_some_iff, Prod.mk.injEq] at hf'
      obtain ⟨d', h1, rfl, rfl⟩ := hf'
      obtain ⟨a', fd', h2, F'⟩ := wl.fn f d' h1
      have o' := ok f d' h1
      exact ⟨a', fd', d'.ps, h2, rfl, F'.kp, F'.binds o'.bind, fn_ok wl ok k f d' h1 a' fd' h2 F'⟩
    refine ⟨rdS _ _ d.fr (evB (callF t.tab wf k) wf d.body), (optAll_sndS (fun {s dd} h => snd_S g 40 s dd h) o.body).pss, ?_⟩
    have hT : t.tab.lookup x = some d.df := by
      unfold Tb.tab
      rw [lookup_map, hx]
      rfl
    have hend : End K mg E μ (if d.fr then RpF K μ else RpE K μ) F0 (match t.tab.lookup x with
      | some dd => runDef (callF t.tab wf k) wf dd ds S
      | none => .bad) Q := hend
    rw [hT] at hend
    have hend : End K mg E μ (if d.fr then RpF K μ else RpE K μ) F0 (if ds.length = d.ps.length then finishR d.fr S.length (evB (callF t.tab wf k) wf d.body (ds.map some ++ List.replicate (d.N.length - d.ps.length) none) S) else .bad) Q := hend
    rw [if_pos hlen] at hend
    exact ⟨_, S, F0, μ, ml_start rs _ hlen, mh, end_of rfl rfl mh.mlen.symm hend⟩

theorem noSome {o : HO} (h : (none : Option HO) = some o) : False := by cases h
/-- the law's promise -/
def spLaw (K : PySem.W.Frag) (n : Nat) : Sp := fun vs H Q _ => ∃ (a : Addr) (ns : List Int), vs = [.ref a] ∧ SqL K H a (ns.map V.int) ∧ ns.length ≤ n ∧ ∀ H', Q (.bl true) H'
theorem law_ok (wl : Wl t bis cs gc K mg) (ok : ∀ x d, t.lookup x = some d → DnOk t bis cs gc x d) {k n : Nat} {d : Dn} {x : Str} (hx : t.lookup x = some d) (hps : d.ps.length = 1) (hfr : d.fr = false)
    (hv : ∀ ns : List Int, ns.length ≤ n → ∃ S, callF t.tab wf k x [.p (.scr ns)] [] = .ok (.p (.bl true)) S) {a : Addr} {fd : FuncData} (hm : mg x = some (.ref a)) (F : Fun K x x d.st a fd) :
    FnOk P w K mg base (L2.CX P w) k a fd d.ps (spLaw K n) := by
  refine (fn_ok (wf := wf) wl ok k x d hx a fd hm F).imp fun vs H Q E h => ?_
  obtain ⟨a, ns, rfl, hS, hl, q⟩ := h
  obtain ⟨S, hc⟩ := hv ns hl
  refine ⟨H, ⟨[], fun _ => none⟩, [], [.p (.scr ns)], by simp [hps], ⟨Le.refl _, rfl, fun i a c h => by simp at h, List.nodup_nil, fun a h => by simp at h, fun a o h => (noSome h).elim, fun a o h => (noSome h).elim⟩, ⟨_, _, rfl, ⟨a, rfl, hS⟩, rfl⟩, ?_⟩
  rw [hc, hfr]
  intro b H' F' l m r
  have : b = .bl true := r
  subst this
  exact q H'
end
end DV
namespace DV
open PySem PySem.Spec PyProof.Rows L2
/-- of each entry -/
def AllP {β : Type} (P : Str → β → Prop) : List (Str × β) → Prop
  | [] => True
  | p :: l => P p.1 p.2 ∧ AllP P l
theorem AllP.get {β : Type} {P : Str → β → Prop} : ∀ {l : List (Str × β)} {x : Str} {d : β}, AllP P l → l.lookup x = some d → P x d
  | [], _, _, _, h => by cases h
  | (y, e) :: l, x, d, ⟨h1, h2⟩, h => by
    rw [List.lookup_cons] at h
    cases q : x == y with
    | true =>
      rw [q] at h
      cases h
      rw [eq_of_beq q]; exact h1
    | false =>
      rw [q] at h
      exact AllP.get h2 h
def AllB (P : Str → Prop) : List Str → Prop
  | [] => True
  | b :: l => P b ∧ AllB P l
theorem AllB.get {P : Str → Prop} : ∀ {l : List Str} {x : Str}, AllB P l → x ∈ l → P x
  | [], _, _, h => by cases h
  | y :: l, x, ⟨h1, h2⟩, h => by
    rcases List.mem_cons.mp h with rfl | h
    · exact h1
    · exact AllB.get h2 h
/-- a def as the top has written it -/
def FnFact (K : PySem.W.Frag) (x : Str) (d : Dn) : Prop :=
  ∃ (f : Addr) (oc : Value) (od : Option Addr) (kV doc pm : Value) (an : Option Addr) (cdv ct : Value) (osl : Array (Option Value)),
    PySem.W.nsIn K mainGlobals x = some (some (.ref f)) ∧ K.lookup f = some ⟨oc, od, .func (PySem.W.fnOf x x (defArgs d.st) (defBody d.st) (defScope d.st) .none kV doc pm an cdv ct), osl⟩ ∧ PySem.W.codeIn K cdv x = true ∧ PySem.W.keepIn K (.ref f) = true
theorem FnFact.of {K : PySem.W.Frag} {x : Str} {d : Dn} {f : Addr} {oc : Value} {od : Option Addr} {kV doc pm : Value} {an : Option Addr} {cdv ct : Value} {osl : Array (Option Value)}
    (a : PySem.W.nsIn K mainGlobals x = some (some (.ref f))) (b : K.lookup f = some ⟨oc, od, .func (PySem.W.fnOf x x (defArgs d.st) (defBody d.st) (defScope d.st) .none kV doc pm an cdv ct), osl⟩) (c : PySem.W.codeIn K cdv x = true) (e : PySem.W.keepIn K (.ref f) = true) : FnFact K x d :=
  ⟨f, oc, od, kV, doc, pm, an, cdv, ct, osl, a, b, c, e⟩
def CsFact (K : PySem.W.Frag) (x : Str) (d : D) : Prop := ∃ (u : Value) (v : V), PySem.W.nsIn K mainGlobals x = some (some u) ∧ RelV v u ∧ ∀ F, Rep K F d v
theorem CsFact.int {K : PySem.W.Frag} {x : Str} {i : Int} {t : Tok} (a : PySem.W.nsIn K mainGlobals x = some (some (.int i t))) : CsFact K x (.int i) := ⟨_, .int i, a, ⟨t, rfl⟩, fun _ => rfl⟩
theorem noCX {P : Program} : ∀ (w : World) (H : Hp) (s : Shared) (e : Value) (s' : Shared), L2.CX P w [] H s (fun _ _ _ => False) e s' → False := fun _ _ _ _ _ h => by
  obtain ⟨_, _, _, _, _, _, _, _, _, _, _, _, z⟩ := h
  exact z
theorem law_end {l : PySem.W.OpenLaw} {w : World} {t : Tb} {bis gc : List Str} {cs : List (Str × D)} {K : PySem.W.Frag} {mg : Str → Option Value} {h : Heap} {wf k n : Nat} {x : Str} {d : Dn} {fa : Addr}
    (ok : AllP (DnOk t bis cs gc) t) (hx : t.lookup x = some d) (hps : d.ps = [("script" : Str)]) (hfr : d.fr = false)
    (hv : ∀ ns : List Int, ns.length ≤ n → ∃ S, callF t.tab wf k x [.p (.scr ns)] [] = .ok (.p (.bl true)) S)
    (KX : K.In h) (G : h.Ns mainGlobals mg) (hmg : mg x = some (.ref fa))
    (fn : AllP (FnFact K) t) (fb : AllB (fun b => PySem.W.nsIn K mainGlobals b = some none) bis) (fg : AllB (fun b => PySem.W.nsIn K mainGlobals b = some (some (.builtin "math.gcd"))) gc) (fc : AllP (CsFact K) cs) :
    ∃ fd : FuncData, (∀ (s : Shared) (u : Value), BindsTo s fd ⟨[u], []⟩ [("script", u)]) ∧ ∀ base : Heap, K.In base → base.Ns mainGlobals mg → FnOk l.prog w K mg base (L2.CX l.prog w) k fa fd ["script"] (spLaw K n) := by
  have wl : Wl t bis cs gc K mg := by
    refine ⟨fun x d hx => ?_, fun b hb => PySem.W.mg_none_of KX G (fb.get hb), fun b hb => PySem.W.mg_of KX G (fg.get hb), fun x d hx => ?_⟩
    · obtain ⟨f, oc, od, kV, doc, pm, an, cdv, ct, osl, a1, l1, c1, k1⟩ := fn.get hx
      exact ⟨f, _, PySem.W.mg_of KX G a1, fun_mk l1 c1 k1⟩
    · obtain ⟨u, v, h1, h2, h3⟩ := fc.get hx
      exact ⟨u, v, PySem.W.mg_of KX G h1, h2, h3⟩
  have okL : ∀ x d, t.lookup x = some d → DnOk t bis cs gc x d := fun x d hx => ok.get hx
  obtain ⟨f, oc, od, kV, doc, pm, an, cdv, ct, osl, a1, l1, c1, k1⟩ := fn.get hx
  have e := hmg.symm.trans (PySem.W.mg_of KX G a1)
  cases e
  refine ⟨PySem.W.fnOf x x (defArgs d.st) (defBody d.st) (defScope d.st) .none kV doc pm an cdv ct, fun s u => ?_, fun base _ _ => ?_⟩
  rotate_left
  · have hh := law_ok (P := l.prog) (w := w) (base := base) (n := n) wl okL hx (by rw [hps]; rfl) hfr hv hmg (fun_mk l1 c1 k1)
    rw [hps] at hh
    exact hh
  · refine .of_eq ?_
    have hb := (okL x d hx).bind kV doc pm an cdv ct [u] (by rw [hps]; rfl)
    rw [hps] at hb
    exact hb
end DV

set_option Elab.async false
set_option linter.all false
set_option maxRecDepth 100000
set_option maxHeartbeats 4000000
/-! DV14: the laws' common defs. -/
namespace DV
open PySem
theorem callF_succ {T : Tab} {wf k : Nat} {x : Str} {d : Df} {vs : List Sv} {S : Store} (h : T.lookup x = some d) (hl : vs.length = d.ps) :
    callF T wf (k + 1) x vs S = finishR d.fr S.length (evB (callF T wf k) wf d.body (vs.map some ++ List.replicate (d.ns - d.ps) none) S) := by
  show (match T.lookup x with
    | some d => runDef (callF T wf k) wf d vs S
    | none => .bad) = _
  rw [h]
  exact if_pos hl
@[simp] theorem lget_zero {v : Sv} {ρ : Loc} : lget (some v :: ρ) 0 = some v := (rfl)
@[simp] theorem lget_succ {o : Option Sv} {ρ : Loc} {i : Nat} : lget (o :: ρ) (i + 1) = lget ρ i := by
  unfold lget
  rw [List.getElem?_cons_succ]
@[simp] theorem finishR_nx {fr : Bool} {n : Nat} {ρ : Loc} {S : Store} : finishR fr n (.nx ρ S) = .ok (.p .non) (S.take n) := (rfl)
@[simp] theorem finishR_ret {fr : Bool} {n : Nat} {d : D} {S : Store} : finishR fr n (.ret (.p d) S) = .ok (.p d) (S.take n) := (rfl)
theorem finishR_retc {fr : Bool} {n i : Nat} {S : Store} : finishR fr n (.ret (.c i) S) = if i < n then (if fr then .bad else .ok (.c i) (S.take n)) else match S[i]? with
    | some (.lst xs) => .ok (.p (.lst xs)) (S.take n)
    | _ => .bad := rfl

def df_sort : Df := ⟨1, 1, false, [
  .ife (.or (.cmp .Is (.var 0) (.con .non)) (.isi (.var 0) .bool)) [.ret (.ife (.cmp .Is (.var 0) (.con .non)) (.con (.int 0)) (.con (.int 1)))] [],
  .ife (.or (.isi (.var 0) .int) (.isi (.var 0) .str)) [.ret (.ife (.isi (.var 0) .int) (.con (.int 2)) (.con (.int 3)))] [],
  .ret (.ife (.isi (.var 0) .tuple) (.con (.int 4)) (.ife (.isi (.var 0) .list) (.con (.int 5)) (.con (.int 6))))]⟩
def srt : D → Int
  | .non => 0 | .bl _ => 1 | .int _ => 2 | .str _ => 3 | .tup _ => 4 | .lst _ => 5 | _ => 6
def flatD : D → Bool
  | .scr _ => false | .fn _ => false | .dct _ _ => false | _ => true
theorem s_sort {T : Tab} {wf k : Nat} (h : T.lookup ("_law_sort" : Str) = some df_sort) (d : D) (hd : flatD d = true) (S : Store) : callF T wf (k + 1) "_law_sort" [.p d] S = .ok (.p (.int (srt d))) S := by
  rw [callF_succ h rfl]
  cases d <;> simp [df_sort, evB, evS, evT, evE, cmpD, isiD, srt, flatD, truD, List.replicate] at hd ⊢
def df_cup : Df := ⟨1, 2, true, [
  .asg (.name 1) (.bi .abs [(.ix (.bin .Add (.bi .list [(.var 0)]) (.lst [(.con (.int 0))])) (.con (.int 0)))]),
  .retF (.lst [(.ife (.cmp .GtE (.var 1) (.bin .Pow (.con (.int 10)) (.con (.int 18)))) (.bin .FloorDiv (.var 1) (.con (.int 109))) (.con (.int 0))), (.bin .Add (.bin .Mod (.bi .int [(.bin .Add (.bin .Mult (.var 1) (.con (.int 359))) (.con (.int 5209)))]) (.con (.int 1994129363))) (.con (.int 223)))])]⟩
def df_roll : Df := ⟨2, 4, false, [
  .ife (.cmp .Gt (.ix (.var 0) (.con (.int 0))) (.con (.int 0))) [.asg (.name 2) (.bin .Mod (.bi .int [(.ix (.var 0) (.con (.int 0)))]) (.var 1)), .setix (.var 0) (.con (.int 0)) (.bin .FloorDiv (.ix (.var 0) (.con (.int 0))) (.var 1)), .ret (.var 2)] [],
  .setix (.var 0) (.con (.int 1)) (.bin .Mod (.bi .int [(.bin .Add (.bin .Mult (.ix (.var 0) (.con (.int 1))) (.con (.int 30103))) (.con (.int 8923)))]) (.con (.int 2147483543))),
  .asg (.name 3) (.bin .Mod (.bi .int [(.bin .Mult (.ix (.var 0) (.con (.int 1))) (.bin .Add (.ix (.var 0) (.con (.int 1))) (.con (.int 283))))]) (.con (.int 2147483587))),
  .ret (.bin .Mod (.bi .int [(.bin .FloorDiv (.var 3) (.con (.int 881)))]) (.var 1))]⟩
def df_some : Df := ⟨2, 2, false, [
  .ret (.ix (.var 1) (.call "_law_roll" false [(.var 0), (.bi .len [(.var 1)])]))]⟩
def df_like : Df := ⟨2, 6, false, [
  .asg (.name 2) (.call "_law_sort" false [(.var 1)]),
  .ife (.or (.cmp .NotEq (.call "_law_sort" false [(.var 0)]) (.var 2)) (.cmp .Eq (.var 2) (.con (.int 6)))) [.ret (.con (.bl false))] [],
  .ife (.cmp .In (.var 2) (.tup [(.con (.int 4)), (.con (.int 5))])) [.ret (.and (.cmp .Eq (.bi .len [(.var 0)]) (.bi .len [(.var 1)])) (.cmp .Eq (.lc (.con (.int 1)) (.tup [(.name 4), (.name 5)]) .zip [(.var 0), (.var 1)] [(.not (.call "_law_like" false [(.var 4), (.var 5)]))] [3, 4, 5]) (.lst [])))] [],
  .ret (.cmp .Eq (.var 0) (.var 1))]⟩

def Cup (a b : Int) : Cell := .lst [.int a, .int b]
def CupOk (a b : Int) : Prop := 0 ≤ a ∧ 0 ≤ b ∧ b < 2147483648
def Up (S S' : Store) : Prop := ∃ a b, CupOk a b ∧ S' = S.set 0 (Cup a b)
def Has (S : Store) : Prop := ∃ a b, CupOk a b ∧ S[0]? = some (Cup a b)
theorem Has.len {S : Store} (h : Has S) : 0 < S.length := by
  obtain ⟨a, b, _, h⟩ := h
  exact (List.getElem?_eq_some_iff.mp h).1
theorem Up.has {S S' : Store} (h : Has S) (u : Up S S') : Has S' := by
  obtain ⟨a, b, ok, rfl⟩ := u
  exact ⟨a, b, ok, List.getElem?_set_self h.len⟩
theorem Up.trans {S S' S'' : Store} (u : Up S S') (v : Up S' S'') : Up S S'' := by
  obtain ⟨a, b, ok, rfl⟩ := u
  obtain ⟨c, d, ok', rfl⟩ := v
  exact ⟨c, d, ok', List.set_set ..⟩
theorem Up.length {S S' : Store} (u : Up S S') : S'.length = S.length := by
  obtain ⟨a, b, ok, rfl⟩ := u
  simp
theorem Up.refl {S : Store} (h : Has S) : Up S S := by
  obtain ⟨a, b, ok, h⟩ := h
  refine ⟨a, b, ok, ?_⟩
  cases S with
  | nil => cases h
  | cons c S => simp at h; subst h; rfl
theorem Up.take {S S' : Store} (u : Up S S') : S'.take S.length = S' := List.take_of_length_le (by rw [u.length]; exact Nat.le_refl _)
theorem smallI_of {i : Int} (h1 : -(2 ^ 64) < i) (h2 : i < 2 ^ 64) : smallI i := ⟨h1, h2⟩
theorem log2_64 {i : Int} (h0 : 0 ≤ i) (h : i < 2 ^ 64) : i.natAbs.log2 < 64 := by
  by_cases hz : i.natAbs = 0
  · rw [hz]; decide
  · rw [Nat.log2_lt hz]
    have e : (2 : Int) ^ 64 = 18446744073709551616 := by decide
    have e2 : (2 : Nat) ^ 64 = 18446744073709551616 := by decide
    rw [e] at h
    rw [e2]
    omega
theorem divOK_of {m : Int} (h0 : 0 < m) (h : m < 2 ^ 64) : divOK m := ⟨by omega, Nat.lt_trans (log2_64 (by omega) h) (by decide)⟩
theorem atI0 {α : Type} {x : α} {xs : List α} : L2.atI (x :: xs) 0 = some x := by
  unfold L2.atI L2.ixN
  rw [if_pos (by decide), if_pos (by simp)]
  rfl
theorem atI1 {α : Type} {x y : α} {xs : List α} : L2.atI (x :: y :: xs) 1 = some y := by
  unfold L2.atI L2.ixN
  rw [if_pos (by decide), if_pos (by simp; omega)]
  rfl
theorem s_roll {T : Tab} {wf k : Nat} (h : T.lookup ("_law_roll" : Str) = some df_roll) {m : Int} (h0 : 0 < m) (h1 : m < 2 ^ 64) {S : Store} (hS : Has S) :
    ∃ v S', 0 ≤ v ∧ v < m ∧ Up S S' ∧ callF T wf (k + 1) "_law_roll" [.c 0, .p (.int m)] S = .ok (.p (.int v)) S' := by
  obtain ⟨a, b, ok, e⟩ := hS
  have hl := (List.getElem?_eq_some_iff.mp e).1
  have hd := divOK_of h0 h1
  have hm : m ≠ 0 := by omega
  by_cases ha : 0 < a
  · refine ⟨a.fmod m, S.set 0 (Cup (a.fdiv m) b), Int.fmod_nonneg_of_pos _ h0, Int.fmod_lt_of_pos _ h0, ⟨_, _, ⟨Int.fdiv_nonneg (by omega) (by omega), ok.2⟩, rfl⟩, ?_⟩
    rw [callF_succ h rfl]
    simp [df_roll, evB, evS, evT, evE, evL, der, ders, e, Cup, ixD, atI0, atI1, cmpD, binD, ha, hm, hd, biF, biInt, bindT, L2.ixN, List.replicate, List.take_of_length_le]
  · have hb := ok.2.1
    have hb2 := ok.2.2
    have q1 : 0 ≤ (b * 30103 + 8923).fmod 2147483543 := Int.fmod_nonneg_of_pos _ (by decide)
    have q2 : (b * 30103 + 8923).fmod 2147483543 < 2147483543 := Int.fmod_lt_of_pos _ (by decide)
    refine ⟨((((b * 30103 + 8923).fmod 2147483543 * ((b * 30103 + 8923).fmod 2147483543 + 283)).fmod 2147483587).fdiv 881).fmod m, S.set 0 (Cup a ((b * 30103 + 8923).fmod 2147483543)), Int.fmod_nonneg_of_pos _ h0, Int.fmod_lt_of_pos _ h0, ⟨_, _, ⟨ok.1, q1, by omega⟩, rfl⟩, ?_⟩
    · rw [callF_succ h rfl]
      have hmul : ∀ i : Int, mulOK ((b * 30103 + 8923).fmod 2147483543) i := fun i => .inl ⟨by omega, by omega⟩
      have hmul2 : mulOK b 30103 := .inr (.inl (by decide))
      have hset : ∀ c : Cell, (S.set 0 c)[0]? = some c := fun c => List.getElem?_set_self hl
      clear hl
      simp [df_roll, evB, evS, evT, evE, evL, der, ders, e, Cup, ixD, atI0, atI1, cmpD, binD, ha, hm, hd, biF, biInt, bindT, L2.ixN, List.replicate, List.take_of_length_le, hmul, hmul2, hset, show divOK 881 from by decide]
theorem s_cup {T : Tab} {wf k : Nat} (h : T.lookup ("_law_cup" : Str) = some df_cup) (ns : List Int) (hl : ns.length ≤ 1000) :
    ∃ a b, CupOk a b ∧ callF T wf (k + 1) "_law_cup" [.p (.scr ns)] [] = .ok (.p (.lst [.int a, .int b])) [] := by
  obtain ⟨x, r, e⟩ : ∃ x r, ns.map D.int ++ [D.int 0] = .int x :: r := by
    cases ns with
    | nil => exact ⟨0, [], rfl⟩
    | cons n ns => exact ⟨n, _, rfl⟩
  have hsz : ns.length + 1 ≤ sizeLine := by
    have : 1001 ≤ sizeLine := by decide
    omega
  have hy : 0 ≤ (if x < 0 then -x else x) := by split <;> omega
  generalize hyd : (if x < 0 then -x else x) = y at hy
  refine ⟨if 10 ^ 18 ≤ y then y.fdiv 109 else 0, (y * 359 + 5209).fmod 1994129363 + 223, ⟨?_, ?_, ?_⟩, ?_⟩
  · split
    · exact Int.fdiv_nonneg hy (by decide)
    · decide
  · have := Int.fmod_nonneg_of_pos (y * 359 + 5209) (b := 1994129363) (by decide)
    omega
  · have := Int.fmod_lt_of_pos (y * 359 + 5209) (b := 1994129363) (by decide)
    omega
  · rw [callF_succ h rfl]
    have hm : mulOK y 359 := .inr (.inl (by decide))
    simp [df_cup, evB, evS, evT, evE, evL, der, ders, ixD, e, atI0, cmpD, binD, biF, biInt, biAbs, biList, bindT, List.replicate, hsz, hyd, hm, show divOK 109 from by decide, show powOK 10 18 from by decide, frsh]
    split <;> simp [pures]
theorem s_some {T : Tab} {wf k : Nat} (h : T.lookup ("_law_roll" : Str) = some df_roll) (h' : T.lookup ("_law_some" : Str) = some df_some) {xs : List D} (h0 : xs ≠ []) (h1 : xs.length < 1000) {S : Store} (hS : Has S) :
    ∃ x S', x ∈ xs ∧ Up S S' ∧ callF T wf (k + 2) "_law_some" [.c 0, .p (.lst xs)] S = .ok (.p x) S' := by
  have hp : 0 < xs.length := List.length_pos_iff.mpr h0
  obtain ⟨v, S', v0, v1, u, e⟩ := s_roll (wf := wf) (k := k) h (m := (xs.length : Int)) (by omega) (by omega) hS
  have hv : v.toNat < xs.length := by omega
  refine ⟨xs[v.toNat], S', List.getElem_mem hv, u, ?_⟩
  rw [callF_succ h' rfl]
  have hat : L2.atI xs v = some xs[v.toNat] := by
    unfold L2.atI L2.ixN
    rw [if_pos v0, if_pos v1]
    exact List.getElem?_eq_getElem hv
  simp [df_some, evB, evS, evT, evE, evL, der, ders, ixD, biF, biLen, List.replicate, e, hat, u.take]
end DV

set_option Elab.async false
set_option linter.all false
set_option maxRecDepth 100000
set_option maxHeartbeats 4000000
/-! DV15: comprehensions and loops without a heap; _law_like. -/
namespace DV
open PySem
section
variable {call : CallF} {wf : Nat}
theorem lcL_pure {turn : D → Store → R (Option D)} {W : Watch} {S : Store} (g : D → Option D) (hw : watched W S = true) : ∀ {ds : List D}, (∀ d ∈ ds, turn d S = .ok (g d) S) → lcL turn W ds S = .ok (ds.filterMap g) S
  | [], _ => by
    unfold lcL
    rw [if_pos hw]
    rfl
  | d :: ds, h => by
    unfold lcL
    rw [if_pos hw, h d List.mem_cons_self]
    simp only [R.nox_ok, R.bind_ok]
    rw [lcL_pure g hw fun d hd => h d (List.mem_cons_of_mem _ hd)]
    simp only [R.bind_ok, List.filterMap_cons]
    cases g d <;> rfl
theorem lc_pure {elt : DE} {tg : DT} {k : IK} {args ifs : List DE} {own : List Nat} {ρ : Loc} {S : Store} {vs : List Sv} {ds : List D} {W : Watch} (ha : evL call args ρ S = .ok vs S) (hi : itemsOf k vs S = some (ds, W)) (hw : watched W S = true)
    (g : D → Option D) (hg : ∀ d ∈ ds, lcTurn call elt tg ifs own ρ d S = .ok (g d) S) (hl : ds.length ≤ sizeLine) : evE call (.lc elt tg k args ifs own) ρ S = .ok (.p (.lst (ds.filterMap g))) S := by
  rw [evE_lc]
  unfold evI
  rw [ha]
  simp only [R.bind_ok, hi, R.of_some]
  rw [lcL_pure g hw hg]
  simp only [R.bind_ok]
  rw [if_pos (Nat.le_trans (List.length_filterMap_le _ _) hl)]
/-- a comprehension whose turns change the store: a relation on stores is kept -/
theorem lcL_run {turn : D → Store → R (Option D)} {P : D → D → Prop} {V : Store → Store → Prop} (refl : ∀ S, V S S) (tr : ∀ S S' S'', V S S' → V S' S'' → V S S'') {S0 : Store} : ∀ {ds : List D} {S : Store}, V S0 S →
    (∀ d ∈ ds, ∀ S, V S0 S → ∃ y S', turn d S = .ok (some y) S' ∧ V S S' ∧ P d y) → ∃ ys S', lcL turn [] ds S = .ok ys S' ∧ V S S' ∧ ys.length = ds.length ∧ ∀ p ∈ ds.zip ys, P p.1 p.2
  | [], S, h0, _ => ⟨[], S, by unfold lcL; rfl, refl S, rfl, fun p hp => by cases hp⟩
  | d :: ds, S, h0, h => by
    obtain ⟨y, S1, e1, v1, p1⟩ := h d List.mem_cons_self S h0
    obtain ⟨ys, S2, e2, v2, l2, p2⟩ := lcL_run refl tr (tr _ _ _ h0 v1) (ds := ds) (S := S1) fun d hd => h d (List.mem_cons_of_mem _ hd)
    refine ⟨y :: ys, S2, ?_, tr _ _ _ v1 v2, by simp [l2], fun p hp => ?_⟩
    · unfold lcL
      rw [if_pos watched_nil, e1]
      simp only [R.nox_ok, R.bind_ok]
      rw [e2]
      rfl
    · rcases List.mem_cons.mp (show p ∈ (d, y) :: ds.zip ys from hp) with rfl | hp
      · exact p1
      · exact p2 p hp
/-- a loop whose turns all end: I is kept -/
theorem forL_all {tg : DT} {body : Loc → Store → SR} {W : Watch} (I : Nat → Loc → Store → Prop) : ∀ (ds : List D) (i : Nat) (ρ : Loc) (S : Store), I i ρ S →
    (∀ j ρ S, I j ρ S → watched W S = true) →
    (∀ j (h : j < ds.length) ρ S, I (i + j) ρ S → ∃ ρ1 ρ2 S2, bindT tg (.p ds[j]) ρ = some ρ1 ∧ (body ρ1 S = .nx ρ2 S2 ∨ body ρ1 S = .ct ρ2 S2) ∧ I (i + j + 1) ρ2 S2) →
    ∃ ρ' S', forL tg body W ds ρ S = .nx ρ' S' ∧ I (i + ds.length) ρ' S'
  | [], i, ρ, S, h0, hw, _ => ⟨ρ, S, by unfold forL; rw [if_pos (hw _ _ _ h0)], h0⟩
  | d :: ds, i, ρ, S, h0, hw, h => by
    obtain ⟨ρ1, ρ2, S2, e1, e2, h2⟩ := h 0 (by simp) ρ S h0
    obtain ⟨ρ', S', e3, h3⟩ := forL_all I ds (i + 1) ρ2 S2 h2 hw fun j hj ρ S hI => by
      have := h (j + 1) (by simpa using hj) ρ S (by rw [show i + (j + 1) = i + 1 + j by omega]; exact hI)
      rw [show i + (j + 1) + 1 = i + 1 + j + 1 by omega] at this
      simpa using this
    refine ⟨ρ', S', ?_, by rw [show i + (d :: ds).length = i + 1 + ds.length by simp; omega]; exact h3⟩
    unfold forL
    rw [if_pos (hw _ _ _ h0)]
    have e1' : bindT tg (.p d) ρ = some ρ1 := e1
    rw [e1']
    rcases e2 with e2 | e2 <;> (simp only [e2, SR.turn_nx, SR.turn_ct]; exact e3)
/-- a loop that hands back at the j-th turn -/
theorem forL_ret {tg : DT} {body : Loc → Store → SR} {W : Watch} (I : Nat → Loc → Store → Prop) {v : Sv} {Sr : Store} : ∀ (ds : List D) (n i : Nat) (ρ : Loc) (S : Store), I i ρ S →
    (∀ j ρ S, I j ρ S → watched W S = true) → (hn : n < ds.length) →
    (∀ j (h : j < n) ρ S, I (i + j) ρ S → ∃ ρ1 ρ2 S2, bindT tg (.p ds[j]) ρ = some ρ1 ∧ (body ρ1 S = .nx ρ2 S2 ∨ body ρ1 S = .ct ρ2 S2) ∧ I (i + j + 1) ρ2 S2) →
    (∀ ρ S, I (i + n) ρ S → ∃ ρ1, bindT tg (.p ds[n]) ρ = some ρ1 ∧ body ρ1 S = .ret v Sr) →
    forL tg body W ds ρ S = .ret v Sr
  | [], n, i, ρ, S, h0, hw, hn, _, _ => by simp at hn
  | d :: ds, 0, i, ρ, S, h0, hw, hn, _, hr => by
    obtain ⟨ρ1, e1, e2⟩ := hr ρ S h0
    unfold forL
    rw [if_pos (hw _ _ _ h0)]
    have e1' : bindT tg (.p d) ρ = some ρ1 := e1
    rw [e1']
    simp only [e2, SR.turn_ret]
  | d :: ds, n + 1, i, ρ, S, h0, hw, hn, h, hr => by
    obtain ⟨ρ1, ρ2, S2, e1, e2, h2⟩ := h 0 (by omega) ρ S h0
    have e3 := forL_ret I (v := v) (Sr := Sr) ds n (i + 1) ρ2 S2 h2 hw (by simpa using hn) (fun j hj ρ S hI => by
      have := h (j + 1) (by omega) ρ S (by rw [show i + (j + 1) = i + 1 + j by omega]; exact hI)
      rw [show i + (j + 1) + 1 = i + 1 + j + 1 by omega] at this
      simpa using this) (fun ρ S hI => by
      have := hr ρ S (by rw [show i + (n + 1) = i + 1 + n by omega]; exact hI)
      simpa using this)
    unfold forL
    rw [if_pos (hw _ _ _ h0)]
    have e1' : bindT tg (.p d) ρ = some ρ1 := e1
    rw [e1']
    rcases e2 with e2 | e2 <;> (simp only [e2, SR.turn_nx, SR.turn_ct]; exact e3)
end

/-! ### data -/
def okD : Nat → D → Bool
  | _, .non => true
  | _, .bl _ => true
  | _, .int _ => true
  | _, .str x => PyData.strOk x
  | n + 1, .tup xs => decide (xs.length ≤ 1000) && xs.all (okD n)
  | n + 1, .lst xs => decide (xs.length ≤ 1000) && xs.all (okD n)
  | _, _ => false
theorem eqD_nil {r : List D} (h : ∀ d ∈ r, d = .int 1) : eqD (.lst r) (.lst []) = some r.isEmpty := by
  have e : ∀ r : List D, (∀ d ∈ r, d = .int 1) → toPys r = some (List.replicate r.length (.int 1)) ∧ PyData.canLayAll0 (List.replicate r.length (.int 1)) = true ∧ PyData.depthAll (List.replicate r.length (.int 1)) = 0 := by
    intro r
    induction r with
    | nil => intro _; exact ⟨rfl, rfl, rfl⟩
    | cons d r ih =>
      intro h
      obtain ⟨h1, h2, h3⟩ := ih fun d hd => h d (List.mem_cons_of_mem _ hd)
      rw [h d List.mem_cons_self]
      refine ⟨?_, ?_, ?_⟩
      · simp only [toPys, toPy, h1]
        rfl
      · simp only [List.length_cons, List.replicate_succ, PyData.canLayAll0, PyData.canLay0, h2, Bool.and_self]
      · simp only [List.length_cons, List.replicate_succ, PyData.depthAll, PyData.depth, h3]
        rfl
  obtain ⟨h1, h2, h3⟩ := e r h
  have s1 : SeqAt.shaped (.list (List.replicate r.length (.int 1))) = true := by
    simp [SeqAt.shaped, PyData.canLay0, PyData.depth, h2, h3]
  have s2 : SeqAt.shaped (.list []) = true := rfl
  simp only [eqD, toPy, h1, toPys, Option.map_some, s1, s2, and_self, if_true]
  cases r <;> rfl
theorem eqD_scalar {x y : D} (h : srt x = srt y) (h4 : srt x < 4) (hx : ∀ n, okD n x = true) (hy : ∀ n, okD n y = true) : eqD x y = some (decide (x = y)) := by
  have key : ∀ {a b : Bool}, a = b → some a = some b := fun h => by rw [h]
  have a := hx 0
  have b := hy 0
  cases x <;> cases y <;> simp [srt] at h h4
  all_goals (simp [okD] at a b; simp [eqD, toPy, SeqAt.shaped, PyData.canLay0, PyData.depth, PyData.eqv, a, b]; try (rw [Bool.eq_iff_iff]; simp))
theorem okD_any {n : Nat} {x : D} (h : okD n x = true) (h4 : srt x < 4) : ∀ m, okD m x = true := fun m => by
  cases x <;> simp [srt] at h4 <;> first | (cases m <;> rfl) | (cases n <;> cases m <;> exact h)
theorem okD_flat {n : Nat} {x : D} (h : okD n x = true) : flatD x = true := by
  cases x <;> first | rfl | (cases n <;> simp [okD] at h)
theorem okD_elems {n : Nat} {xs : List D} (h : okD n (.tup xs) = true ∨ okD n (.lst xs) = true) : ∃ m, n = m + 1 ∧ xs.length ≤ 1000 ∧ ∀ d ∈ xs, okD m d = true := by
  cases n with
  | zero => rcases h with h | h <;> cases h
  | succ m =>
    refine ⟨m, rfl, ?_⟩
    rcases h with h | h <;> (simp only [okD, Bool.and_eq_true, decide_eq_true_eq, List.all_eq_true] at h; exact h)
theorem zip_like {xs ys : List D} (hl : xs.length = ys.length) : ((zipD xs ys).filterMap fun d => match d with
    | .tup [a, b] => if a = b then none else some (D.int 1)
    | _ => none).isEmpty = decide (xs = ys) := by
  induction xs generalizing ys with
  | nil => cases ys <;> simp [zipD] at hl ⊢
  | cons x xs ih =>
    cases ys with
    | nil => simp at hl
    | cons y ys =>
      have ih := ih (ys := ys) (by simpa using hl)
      simp only [zipD, List.zip_cons_cons, List.map_cons, List.filterMap_cons] at ih ⊢
      by_cases e : x = y
      · simp only [e, if_true]
        rw [ih]
        simp
      · simp [e]
theorem eqD_int {a b : Int} : eqD (.int a) (.int b) = some (decide (a = b)) := by
  simp [eqD, toPy, SeqAt.shaped, PyData.canLay0, PyData.depth, PyData.eqv]
  rw [Bool.eq_iff_iff]; simp
theorem like_step {T : Tab} {wf k : Nat} (h : T.lookup ("_law_sort" : Str) = some df_sort) (h' : T.lookup ("_law_like" : Str) = some df_like) {S : Store} {n : Nat} {x y : D} (hx : okD n x = true) (hy : okD n y = true)
    (ih : ∀ m, n = m + 1 → ∀ a b, okD m a = true → okD m b = true → callF T wf (k + 1) "_law_like" [.p a, .p b] S = .ok (.p (.bl (decide (a = b)))) S) :
    callF T wf (k + 2) "_law_like" [.p x, .p y] S = .ok (.p (.bl (decide (x = y)))) S := by
  have e1 := s_sort (wf := wf) (k := k) h x (okD_flat hx) S
  have e2 := s_sort (wf := wf) (k := k) h y (okD_flat hy) S
  rw [callF_succ h' rfl]
  by_cases hs : srt x = srt y
  · have y6 : srt y ≠ 6 := by cases y <;> first | (simp [srt]; done) | (cases n <;> simp [okD] at hy)
    by_cases h4 : srt x < 4
    · have e3 := eqD_scalar hs h4 (okD_any hx h4) (okD_any hy (by rw [← hs]; exact h4))
      have hin : isIn (.int (srt y)) (.tup [.int 4, .int 5]) = some false := by
        have : srt y < 4 := by rw [← hs]; exact h4
        simp [isIn, toPy, toPys, SeqAt.shaped, PyData.canLay0, PyData.canLayAll0, PyData.depth, PyData.depthAll, PyData.eqv]
        omega
      simp [df_like, evB, evS, evE, evT, evL, cmpD, List.replicate, e1, e2, eqD_int, hs, bindT, y6, hin, pures, e3]
    · have lst : ∀ xs ys : List D, (∃ m, n = m + 1 ∧ xs.length ≤ 1000 ∧ ∀ d ∈ xs, okD m d = true) → (∃ m, n = m + 1 ∧ ys.length ≤ 1000 ∧ ∀ d ∈ ys, okD m d = true) → ∀ (ρ : Loc) (vs : List Sv), evL (callF T wf (k + 1)) [.var 0, .var 1] ρ S = .ok vs S → itemsOf .zip vs S = some (zipD xs ys, []) → xs.length = ys.length →
          (∀ a b : D, bindT (.tup [.name 4, .name 5]) (.p (.tup [a, b])) (wipeρ ρ [3, 4, 5]) = some (((wipeρ ρ [3, 4, 5]).set 4 (some (.p a))).set 5 (some (.p b)))) → ρ.length = 6 →
          evE (callF T wf (k + 1)) (.lc (.con (.int 1)) (.tup [(.name 4), (.name 5)]) .zip [(.var 0), (.var 1)] [(.not (.call "_law_like" false [(.var 4), (.var 5)]))] [3, 4, 5]) ρ S = .ok (.p (.lst ((zipD xs ys).filterMap fun d => match d with
            | .tup [a, b] => if a = b then none else some (D.int 1)
            | _ => none))) S := by
        intro xs ys ⟨m, hm, lx, ox⟩ ⟨m', hm', ly, oy⟩ ρ vs ha hi hl hb hρ
        have : m' = m := by omega
        subst this
        refine lc_pure ha hi rfl _ (fun d hd => ?_) ?_
        · obtain ⟨i, hi⟩ := List.mem_iff_getElem?.mp hd
          obtain ⟨a, b, q1, q2, rfl⟩ := zipD_get hi
          have ra := ih _ hm a b (ox a (List.mem_of_getElem? q1)) (oy b (List.mem_of_getElem? q2))
          unfold lcTurn
          rw [hb a b]
          have g4 : lget (((wipeρ ρ [3, 4, 5]).set 4 (some (.p a))).set 5 (some (.p b))) 4 = some (.p a) := by
            unfold lget
            rw [List.getElem?_set_ne (by decide), List.getElem?_set_self (by simp [wipeρ, hρ])]
          have g5 : lget (((wipeρ ρ [3, 4, 5]).set 4 (some (.p a))).set 5 (some (.p b))) 5 = some (.p b) := by
            unfold lget
            rw [List.getElem?_set_self (by simp [wipeρ, hρ])]
          generalize ((wipeρ ρ [3, 4, 5]).set 4 (some (.p a))).set 5 (some (.p b)) = ρ2 at g4 g5 ⊢
          by_cases e : a = b
          · subst e
            simp [evTs, evT, evL, evE, g4, g5, ra, truD]
          · simp [evTs, evT, evL, evE, g4, g5, ra, e, truD]
        · have : 1000 ≤ sizeLine := by decide
          simp [zipD]
          omega
      have hnil : ∀ xs ys : List D, xs.length = ys.length → eqD (.lst ((zipD xs ys).filterMap fun d => match d with
            | .tup [a, b] => if a = b then none else some (D.int 1)
            | _ => none)) (.lst []) = some (decide (xs = ys)) := fun xs ys hl => by
        rw [eqD_nil, zip_like hl]
        intro d hd
        obtain ⟨e, _, he⟩ := List.mem_filterMap.mp hd
        split at he
        · split at he
          · cases he
          · cases he; rfl
        · cases he
      have len : ∀ a b : Nat, eqD (.int a) (.int b) = some (decide (a = b)) := fun a b => by
        rw [eqD_int]
        exact congrArg some (by rw [Bool.eq_iff_iff]; simp; omega)
      have main : ∀ xs ys : List D, ((x = .tup xs ∧ y = .tup ys) ∨ (x = .lst xs ∧ y = .lst ys)) → finishR (df_like.fr) S.length (evB (callF T wf (k + 1)) wf df_like.body (List.map some [.p x, .p y] ++ List.replicate (df_like.ns - df_like.ps) none) S) = .ok (.p (.bl (decide (xs = ys)))) S := by
        intro xs ys hxy
        have hin : ∀ s : Int, (s = 4 ∨ s = 5) → isIn (.int s) (.tup [.int 4, .int 5]) = some true := fun s hs => by
          rcases hs with rfl | rfl <;> decide
        have sy : srt y = 4 ∨ srt y = 5 := by rcases hxy with ⟨_, rfl⟩ | ⟨_, rfl⟩ <;> simp [srt]
        have lx : biLen [x] = some (.int xs.length) := by rcases hxy with ⟨rfl, _⟩ | ⟨rfl, _⟩ <;> rfl
        have ly : biLen [y] = some (.int ys.length) := by rcases hxy with ⟨_, rfl⟩ | ⟨_, rfl⟩ <;> rfl
        have zi : itemsOf .zip [.p x, .p y] S = some (zipD xs ys, []) := by rcases hxy with ⟨rfl, rfl⟩ | ⟨rfl, rfl⟩ <;> rfl
        have ox : ∃ m, n = m + 1 ∧ xs.length ≤ 1000 ∧ ∀ d ∈ xs, okD m d = true := okD_elems (by rcases hxy with ⟨rfl, _⟩ | ⟨rfl, _⟩ <;> simp [hx])
        have oy : ∃ m, n = m + 1 ∧ ys.length ≤ 1000 ∧ ∀ d ∈ ys, okD m d = true := okD_elems (by rcases hxy with ⟨_, rfl⟩ | ⟨_, rfl⟩ <;> simp [hy])
        by_cases hl : xs.length = ys.length
        · have lc := lst xs ys ox oy [some (.p x), some (.p y), some (.p (.int (srt y))), none, none, none] [.p x, .p y] (by simp [evL, evE]) zi hl (fun a b => by simp [bindT, bindTs]) rfl
          simp [df_like, evB, evS, evE.eq_1, evE.eq_2, evE.eq_5, evE.eq_7, evE.eq_11, evE.eq_12, evE.eq_17, evE.eq_18, evT, evL, cmpD, List.replicate, e1, e2, eqD_int, hs, bindT, y6, hin _ sy, pures, ders, biF, lx, ly, lc, hnil xs ys hl, hl, len]
        · have hne : xs ≠ ys := fun z => hl (by rw [z])
          simp [df_like, evB, evS, evE.eq_1, evE.eq_2, evE.eq_5, evE.eq_7, evE.eq_11, evE.eq_12, evE.eq_17, evE.eq_18, evT, evL, cmpD, List.replicate, e1, e2, eqD_int, hs, bindT, y6, hin _ sy, pures, ders, biF, lx, ly, hl, len, hne]
      cases x <;> simp [srt] at h4 hs <;> cases y <;> simp at hs y6
      · rename_i xs ys
        rw [main xs ys (.inl ⟨rfl, rfl⟩)]
        simp
      · rename_i xs ys
        rw [main xs ys (.inr ⟨rfl, rfl⟩)]
        simp
      all_goals (cases n <;> simp [okD] at hx)
  · have hne : x ≠ y := fun z => hs (by rw [z])
    simp [df_like, evB, evS, evE, evT, evL, cmpD, List.replicate, e1, e2, eqD_int, hs, bindT, hne]
theorem s_like {T : Tab} {wf : Nat} (h : T.lookup ("_law_sort" : Str) = some df_sort) (h' : T.lookup ("_law_like" : Str) = some df_like) (S : Store) : ∀ (n j : Nat) (x y : D), okD n x = true → okD n y = true →
    callF T wf (n + j + 2) "_law_like" [.p x, .p y] S = .ok (.p (.bl (decide (x = y)))) S
  | 0, j, x, y, hx, hy => by
    have := like_step (wf := wf) (k := j) h h' (S := S) hx hy (fun m hm => by omega)
    rw [show 0 + j + 2 = j + 2 by omega]
    exact this
  | n + 1, j, x, y, hx, hy => by
    have := like_step (wf := wf) (k := n + j + 1) h h' (S := S) hx hy (fun m hm a b ha hb => by
      have : m = n := by omega
      subst this
      exact s_like h h' S m j a b ha hb)
    rw [show n + 1 + j + 2 = n + j + 1 + 2 by omega]
    exact this
end DV

set_option Elab.async false
set_option linter.all false
set_option maxRecDepth 100000
set_option maxHeartbeats 4000000
/-! DV16: evaluation, as rewriting rules. -/
namespace DV
open PySem
theorem R.bind_congr {α β : Type} {r r' : R α} {f : α → Store → R β} (h : r = r') : r.bind f = r'.bind f := by rw [h]
theorem R.st_congr {α : Type} {r r' : R α} {ρ : Loc} {f : α → Store → SR} (h : r = r') : r.st ρ f = r'.st ρ f := by rw [h]
theorem SR.seq_congr {r r' : SR} {f : Loc → Store → SR} (h : r = r') : r.seq f = r'.seq f := by rw [h]
theorem SR.turn_congr {r r' : SR} {f : Loc → Store → SR} (h : r = r') : r.turn f = r'.turn f := by rw [h]
section
variable {call : CallF} {wf : Nat} {ρ : Loc} {S : Store}
@[simp] theorem evE_var {i : Nat} : evE call (.var i) ρ S = R.of (lget ρ i) S := (rfl)
@[simp] theorem evE_con {d : D} : evE call (.con d) ρ S = .ok (.p d) S := (rfl)
@[simp] theorem evE_bin {op : Operator} {a b : DE} : evE call (.bin op a b) ρ S = (evE call a ρ S).bind fun x S1 => (evE call b ρ S1).bind fun y S2 => match der S2 x, der S2 y with
    | some d, some e => R.of ((binD op d e).map .p) S2
    | _, _ => .bad := (rfl)
@[simp] theorem evE_neg {a : DE} : evE call (.neg a) ρ S = (evE call a ρ S).bind fun x S1 => match x with
    | .p (.int i) => .ok (.p (.int (-i))) S1
    | _ => .bad := (rfl)
@[simp] theorem evE_cmp {op : CmpOp} {a b : DE} : evE call (.cmp op a b) ρ S = (evE call a ρ S).bind fun x S1 => (evE call b ρ S1).bind fun y S2 => match der S2 x, der S2 y with
    | some d, some e => R.of ((cmpD op d e).map fun k => .p (.bl k)) S2
    | _, _ => .bad := (rfl)
@[simp] theorem evE_chain {op op' : CmpOp} {a b c : DE} : evE call (.chain op op' a b c) ρ S = (evE call a ρ S).bind fun x S1 => (evE call b ρ S1).bind fun y S2 => match x, y with
    | .p d, .p e => match cmpD op d e with
      | some true => (evE call c ρ S2).bind fun z S3 => match z with
        | .p f => R.of ((cmpD op' e f).map fun k => .p (.bl k)) S3
        | _ => .bad
      | some false => .ok (.p (.bl false)) S2
      | none => .bad
    | _, _ => .bad := (rfl)
@[simp] theorem evE_and {a b : DE} : evE call (.and a b) ρ S = (evE call a ρ S).bind fun x S1 => match x with
    | .p (.bl true) => evE call b ρ S1
    | .p (.bl false) => .ok (.p (.bl false)) S1
    | _ => .bad := (rfl)
@[simp] theorem evE_or {a b : DE} : evE call (.or a b) ρ S = (evE call a ρ S).bind fun x S1 => match x with
    | .p (.bl true) => .ok (.p (.bl true)) S1
    | .p (.bl false) => evE call b ρ S1
    | _ => .bad := (rfl)
@[simp] theorem evE_not {a : DE} : evE call (.not a) ρ S = (evE call a ρ S).bind fun x S1 => match x with
    | .p (.bl k) => .ok (.p (.bl (!k))) S1
    | _ => .bad := (rfl)
@[simp] theorem evE_ife {c a b : DE} : evE call (.ife c a b) ρ S = (evT call c ρ S).bind fun k S1 => if k = true then evE call a ρ S1 else evE call b ρ S1 := (rfl)
@[simp] theorem evE_tup {es : List DE} : evE call (.tup es) ρ S = (evL call es ρ S).bind fun vs S1 => match pures vs with
    | some ds => .ok (.p (.tup ds)) S1
    | none => .bad := (rfl)
@[simp] theorem evE_lst {es : List DE} : evE call (.lst es) ρ S = (evL call es ρ S).bind fun vs S1 => match pures vs with
    | some ds => .ok (.p (.lst ds)) S1
    | none => .bad := (rfl)
@[simp] theorem evE_ix {a i : DE} : evE call (.ix a i) ρ S = (evE call a ρ S).bind fun x S1 => (evE call i ρ S1).bind fun y S2 => match der S2 x, y with
    | some d, .p e => R.of ((ixD d e).map .p) S2
    | _, _ => .bad := (rfl)
@[simp] theorem evE_sl {a : DE} {lo hi : Option DE} : evE call (.sl a lo hi) ρ S = (evE call a ρ S).bind fun x S1 => (evO call lo ρ S1).bind fun l S2 => (evO call hi ρ S2).bind fun h S3 => match der S3 x with
    | some d => R.of ((slD d l h).map .p) S3
    | none => .bad := (rfl)
@[simp] theorem evE_rev {a : DE} : evE call (.rev a) ρ S = (evE call a ρ S).bind fun x S1 => match der S1 x with
    | some (.lst xs) => .ok (.p (.lst xs.reverse)) S1
    | some (.tup xs) => .ok (.p (.tup xs.reverse)) S1
    | _ => .bad := (rfl)
@[simp] theorem evE_pop {a i : DE} : evE call (.pop a i) ρ S = (evE call a ρ S).bind fun x S1 => match x with
    | .c j => if isLst S1 j = true then (evE call i ρ S1).bind fun y S2 => (match y with
      | .p (.int k) => (match S2[j]? with
        | some (.lst xs) => if -(2 ^ 63) ≤ k ∧ k < 2 ^ 63 then (match L2.ixN xs.length k with
          | some m => (match xs[m]? with
            | some d => .ok (.p d) (S2.set j (.lst (xs.eraseIdx m)))
            | none => .bad)
          | none => .bad) else .bad
        | _ => .bad)
      | _ => .bad) else .bad
    | .p _ => .bad := (rfl)
@[simp] theorem evE_lrg {tp : Bool} {es : List DE} : evE call (.lrg tp es) ρ S = (evL call es ρ S).bind fun vs S1 => match rgOf vs with
    | some (a, b) => if rgOK a b then .ok (.p (if tp = true then .tup (rngD a (b - a).toNat) else .lst (rngD a (b - a).toNat))) S1 else .bad
    | none => .bad := (rfl)
@[simp] theorem evE_cnt {a i : DE} : evE call (.cnt a i) ρ S = (evE call a ρ S).bind fun x S1 => match x with
    | .p (.lst xs) => (match intsOf xs with
      | some ns => (evE call i ρ S1).bind fun y S2 => (match y with
        | .p (.int k) => .ok (.p (.int ((ns.count k : Nat) : Int))) S2
        | _ => .bad)
      | none => .bad)
    | _ => .bad := (rfl)
@[simp] theorem evE_idx {a i : DE} : evE call (.idx a i) ρ S = (evE call a ρ S).bind fun x S1 => match x with
    | .p (.lst xs) => (match intsOf xs with
      | some ns => (evE call i ρ S1).bind fun y S2 => (match y with
        | .p (.int k) => R.of ((idxI k ns).map fun m => .p (.int (m : Nat))) S2
        | _ => .bad)
      | none => .bad)
    | _ => .bad := (rfl)
theorem evE_lc2_ {elt : DE} {tg : DT} {k : IK} {args ifs : List DE} {tg1 : DT} {k1 : IK} {args1 ifs1 : List DE} {own : List Nat} : evE call (.lc2 elt tg k args ifs tg1 k1 args1 ifs1 own) ρ S = (evI call k args ρ S).bind fun dw S1 => (lcM (lcTurn2 call elt tg ifs tg1 k1 args1 ifs1 own ρ) dw.2 dw.1 S1).bind fun r S2 => if r.length ≤ sizeLine then .ok (.p (.lst r)) S2 else .bad := evE_lc2
@[simp] theorem evE_dnew : evE call .dnew ρ S = .ok (.p (.dct [] [])) S := (rfl)
@[simp] theorem isLst_def {S : Store} {j : Nat} : isLst S j = match S[j]? with
  | some (.lst _) => true
  | _ => false := (rfl)
@[simp] theorem evE_call {x : Str} {fr : Bool} {es : List DE} : evE call (.call x fr es) ρ S = (evL call es ρ S).bind fun vs S1 => call x vs S1 := (rfl)
@[simp] theorem evE_bi {x : Bi} {es : List DE} : evE call (.bi x es) ρ S = (evL call es ρ S).bind fun vs S1 => match ders S1 vs with
    | some ds => R.of ((biF x ds).map .p) S1
    | none => .bad := (rfl)
@[simp] theorem evE_isi {a : DE} {T : Ty} : evE call (.isi a T) ρ S = (evE call a ρ S).bind fun x S1 => match der S1 x with
    | some d => R.of ((isiD d T).map fun k => .p (.bl k)) S1
    | none => .bad := (rfl)
@[simp] theorem evT_and {a b : DE} : evT call (.and a b) ρ S = (evT call a ρ S).bind fun k S1 => if k = true then evT call b ρ S1 else .ok false S1 := (rfl)
@[simp] theorem evT_or {a b : DE} : evT call (.or a b) ρ S = (evT call a ρ S).bind fun k S1 => if k = true then .ok true S1 else evT call b ρ S1 := (rfl)
@[simp] theorem evT_ife {c a b : DE} : evT call (.ife c a b) ρ S = (evT call c ρ S).bind fun k S1 => if k = true then evT call a ρ S1 else evT call b ρ S1 := (rfl)
@[simp] theorem evT_not {a : DE} : evT call (.not a) ρ S = (evT call a ρ S).bind fun k S1 => .ok (!k) S1 := (rfl)
@[simp] theorem evT_var {i : Nat} : evT call (.var i) ρ S = (R.of (lget ρ i) S).bind fun x S1 => R.of ((der S1 x).bind truD) S1 := (rfl)
@[simp] theorem evT_con {d : D} : evT call (.con d) ρ S = R.of (truD d) S := (rfl)
@[simp] theorem evT_cmp {op : CmpOp} {a b : DE} : evT call (.cmp op a b) ρ S = (evE call a ρ S).bind fun x S1 => (evE call b ρ S1).bind fun y S2 => match der S2 x, der S2 y with
    | some d, some e => R.of (cmpD op d e) S2
    | _, _ => .bad := (rfl)
@[simp] theorem evT_chain {op op' : CmpOp} {a b c : DE} : evT call (.chain op op' a b c) ρ S = (evE call a ρ S).bind fun x S1 => (evE call b ρ S1).bind fun y S2 => match x, y with
    | .p d, .p e => match cmpD op d e with
      | some true => (evE call c ρ S2).bind fun z S3 => match z with
        | .p f => R.of (cmpD op' e f) S3
        | _ => .bad
      | some false => .ok false S2
      | none => .bad
    | _, _ => .bad := (rfl)
@[simp] theorem evT_call {x : Str} {fr : Bool} {es : List DE} : evT call (.call x fr es) ρ S = (evL call es ρ S).bind fun vs S1 => (call x vs S1).bind fun x S2 => R.of ((der S2 x).bind truD) S2 := (rfl)
@[simp] theorem evT_bi {x : Bi} {es : List DE} : evT call (.bi x es) ρ S = (evL call es ρ S).bind fun vs S1 => match ders S1 vs with
    | some ds => R.of ((biF x ds).bind truD) S1
    | none => .bad := (rfl)
@[simp] theorem evT_isi {a : DE} {T : Ty} : evT call (.isi a T) ρ S = (evE call a ρ S).bind fun x S1 => match der S1 x with
    | some d => R.of (isiD d T) S1
    | none => .bad := (rfl)
@[simp] theorem evT_ix {a i : DE} : evT call (.ix a i) ρ S = (evE call a ρ S).bind fun x S1 => (evE call i ρ S1).bind fun y S2 => match der S2 x, y with
    | some d, .p e => R.of ((ixD d e).bind truD) S2
    | _, _ => .bad := (rfl)
@[simp] theorem evT_bin {op : Operator} {a b : DE} : evT call (.bin op a b) ρ S = (evE call a ρ S).bind fun x S1 => (evE call b ρ S1).bind fun y S2 => match der S2 x, der S2 y with
    | some d, some e => R.of ((binD op d e).bind truD) S2
    | _, _ => .bad := (rfl)
@[simp] theorem evL_nil : evL call [] ρ S = .ok [] S := (rfl)
@[simp] theorem evL_cons {e : DE} {es : List DE} : evL call (e :: es) ρ S = (evE call e ρ S).bind fun v S1 => (evL call es ρ S1).bind fun vs S2 => .ok (v :: vs) S2 := (rfl)
@[simp] theorem evO_none : evO call none ρ S = .ok none S := (rfl)
@[simp] theorem evO_some {e : DE} : evO call (some e) ρ S = (evE call e ρ S).bind fun v S1 => match v with
    | .p (.int i) => .ok (some i) S1
    | _ => .bad := (rfl)
@[simp] theorem evTs_nil : evTs call [] ρ S = .ok true S := (rfl)
@[simp] theorem evTs_cons {e : DE} {es : List DE} : evTs call (e :: es) ρ S = (evT call e ρ S).bind fun k S1 => if k = true then evTs call es ρ S1 else .ok false S1 := (rfl)
@[simp] theorem evB_nil : evB call wf [] ρ S = .nx ρ S := (rfl)
@[simp] theorem evB_cons {s : DS} {ss : List DS} : evB call wf (s :: ss) ρ S = (evS call wf s ρ S).seq fun ρ S => evB call wf ss ρ S := (rfl)
@[simp] theorem evS_asg {tg : DT} {e : DE} : evS call wf (.asg tg e) ρ S = (evE call e ρ S).st ρ fun v S1 => SR.of (bindT tg v ρ) S1 := (rfl)
@[simp] theorem evS_new {i : Nat} {e : DE} : evS call wf (.new i e) ρ S = (evE call e ρ S).st ρ fun v S1 => match v with
    | .p (.lst xs) => if frsh e then .nx (ρ.set i (some (.c S1.length))) (S1 ++ [.lst xs]) else .bad
    | .p (.dct ks vs) => if frsh e then .nx (ρ.set i (some (.c S1.length))) (S1 ++ [.dct ks vs]) else .bad
    | v => .nx (ρ.set i (some v)) S1 := (rfl)
@[simp] theorem evS_par {is : List Nat} {es : List DE} : evS call wf (.par is es) ρ S = (evL call es ρ S).st ρ fun vs S1 => if is.length = vs.length then .nx ((is.zip vs).foldl (fun ρ p => ρ.set p.1 (some p.2)) ρ) S1 else .bad := (rfl)
@[simp] theorem evS_parN {is : List Nat} {nf : List Bool} {es : List DE} : evS call wf (.parN is nf es) ρ S = (evN call nf es ρ S).st ρ fun vs S1 => if is.length = vs.length then .nx ((is.zip vs).foldl (fun ρ p => ρ.set p.1 (some p.2)) ρ) S1 else .bad := (rfl)
@[simp] theorem evN_nil : evN call [] [] ρ S = .ok [] S := (rfl)
@[simp] theorem evN_cons {b : Bool} {bs : List Bool} {e : DE} {es : List DE} : evN call (b :: bs) (e :: es) ρ S = (evE call e ρ S).bind fun v S1 => match ownV b (frsh e) v S1 with
    | some p => (evN call bs es ρ p.2).bind fun vs S3 => .ok (p.1 :: vs) S3
    | none => .bad := (rfl)
@[simp] theorem evS_aug {i : Nat} {op : Operator} {e : DE} : evS call wf (.aug i op e) ρ S = match lget ρ i with
    | some (.p d) => (evE call e ρ S).st ρ fun v S1 => match v with
      | .p e => (match d, e, binD op d e with
        | .int _, .int _, some r => .nx (ρ.set i (some (.p r))) S1
        | _, _, _ => .bad)
      | _ => .bad
    | _ => .bad := (rfl)
@[simp] theorem evS_setix {a i e : DE} : evS call wf (.setix a i e) ρ S = (evE call e ρ S).st ρ fun v S1 => (evE call a ρ S1).st ρ fun x S2 => (evE call i ρ S2).st ρ fun y S3 => match v, x, y with
    | .p d, .c j, .p e => (match S3[j]? with
      | some (.lst xs) => (match e with
        | .int k => (match L2.ixN xs.length k with
          | some m => .nx ρ (S3.set j (.lst (xs.set m d)))
          | none => .bad)
        | _ => .bad)
      | some (.dct ks vs) => (match keyOf e with
        | some k => if ks.length < sizeLine then (match dput ks vs k d with
          | (ks', vs') => .nx ρ (S3.set j (.dct ks' vs'))) else .bad
        | none => .bad)
      | _ => .bad)
    | _, _, _ => .bad := (rfl)
@[simp] theorem evS_app {a e : DE} : evS call wf (.app a e) ρ S = (evE call a ρ S).st ρ fun x S1 => match x with
    | .c j => if isLst S1 j = true then (evE call e ρ S1).st ρ fun v S2 => (match v with
      | .p d => (match S2[j]? with
        | some (.lst xs) => if xs.length < sizeLine then .nx ρ (S2.set j (.lst (xs ++ [d]))) else .bad
        | _ => .bad)
      | .c _ => .bad) else .bad
    | .p _ => .bad := (rfl)
@[simp] theorem evS_expr {e : DE} : evS call wf (.expr e) ρ S = (evE call e ρ S).st ρ fun _ S1 => .nx ρ S1 := (rfl)
@[simp] theorem evS_ret {e : DE} : evS call wf (.ret e) ρ S = (evE call e ρ S).st ρ fun v S1 => .ret v S1 := (rfl)
@[simp] theorem evS_retF {e : DE} : evS call wf (.retF e) ρ S = (evE call e ρ S).st ρ fun v S1 => match v with
    | .p d => if frsh e then .ret (.p d) S1 else .bad
    | .c i => .ret (.c i) S1 := (rfl)
@[simp] theorem evS_retN : evS call wf .retN ρ S = .ret (.p .non) S := (rfl)
@[simp] theorem evS_pass : evS call wf .pass ρ S = .nx ρ S := (rfl)
@[simp] theorem evS_brk : evS call wf .brk ρ S = .bk ρ S := (rfl)
@[simp] theorem evS_cont : evS call wf .cont ρ S = .ct ρ S := (rfl)
@[simp] theorem evS_ife {c : DE} {a b : List DS} : evS call wf (.ife c a b) ρ S = (evT call c ρ S).st ρ fun k S1 => if k = true then evB call wf a ρ S1 else evB call wf b ρ S1 := (rfl)
@[simp] theorem evS_never : evS call wf .never ρ S = .bad := (rfl)
theorem evS_for {tg : DT} {k : IK} {args : List DE} {body : List DS} {vs : List Sv} {S1 : Store} {ds : List D} {W : Watch} (ha : evL call args ρ S = .ok vs S1) (hi : itemsOf k vs S1 = some (ds, W)) : evS call wf (.for tg k args body) ρ S = forL tg (evB call wf body) W ds ρ S1 := by
  show ((evL call args ρ S).st ρ fun vs S1 => match itemsOf k vs S1 with
    | some (ds, W) => forL tg (evB call wf body) W ds ρ S1
    | none => .bad) = _
  rw [ha]
  simp only [R.st_ok, hi]
theorem evS_while {c : DE} {body : List DS} : evS call wf (.while c body) ρ S = whileL (evT call c) (evB call wf body) wf ρ S := (rfl)
@[simp] theorem bindT_name {i : Nat} {v : Sv} : bindT (.name i) v ρ = some (ρ.set i (some v)) := (rfl)
@[simp] theorem bindT_tup {ts : List DT} {ds : List D} : bindT (.tup ts) (.p (.tup ds)) ρ = bindTs ts ds ρ := (rfl)
@[simp] theorem bindTs_nil : bindTs [] [] ρ = some ρ := (rfl)
@[simp] theorem bindTs_cons {t : DT} {ts : List DT} {d : D} {ds : List D} : bindTs (t :: ts) (d :: ds) ρ = (match bindT t (.p d) ρ with
    | some ρ' => bindTs ts ds ρ'
    | none => none) := (rfl)
@[simp] theorem wipeρ_nil : wipeρ ρ [] = ρ := (rfl)
@[simp] theorem wipeρ_cons {v : Nat} {vs : List Nat} : wipeρ ρ (v :: vs) = (wipeρ ρ vs).set v none := (rfl)
@[simp] theorem binD_add {i j : Int} : binD .Add (.int i) (.int j) = some (.int (i + j)) := (rfl)
@[simp] theorem binD_sub {i j : Int} : binD .Sub (.int i) (.int j) = some (.int (i - j)) := (rfl)
theorem binD_mul {i j : Int} (h : mulOK i j) : binD .Mult (.int i) (.int j) = some (.int (i * j)) := if_pos h
theorem binD_div {i j : Int} (h : divOK j) : binD .FloorDiv (.int i) (.int j) = some (.int (i.fdiv j)) := if_pos h
theorem binD_mod {i j : Int} (h : j ≠ 0) : binD .Mod (.int i) (.int j) = some (.int (i.fmod j)) := if_pos h
theorem binD_cat {xs ys : List D} (h : xs.length + ys.length ≤ sizeLine) : binD .Add (.tup xs) (.tup ys) = some (.tup (xs ++ ys)) := if_pos h
theorem binD_catL {xs ys : List D} (h : xs.length + ys.length ≤ sizeLine) : binD .Add (.lst xs) (.lst ys) = some (.lst (xs ++ ys)) := if_pos h
@[simp] theorem cmpD_eq {d e : D} : cmpD .Eq d e = eqD d e := (rfl)
@[simp] theorem cmpD_ne {d e : D} : cmpD .NotEq d e = (eqD d e).map (!·) := (rfl)
@[simp] theorem cmpD_lt {i j : Int} : cmpD .Lt (.int i) (.int j) = some (decide (i < j)) := (rfl)
@[simp] theorem cmpD_le {i j : Int} : cmpD .LtE (.int i) (.int j) = some (decide (i ≤ j)) := (rfl)
@[simp] theorem cmpD_gt {i j : Int} : cmpD .Gt (.int i) (.int j) = some (decide (j < i)) := (rfl)
@[simp] theorem cmpD_ge {i j : Int} : cmpD .GtE (.int i) (.int j) = some (decide (j ≤ i)) := (rfl)
@[simp] theorem cmpD_isN {d : D} : cmpD .Is d .non = some (decide (d = .non)) := by cases d <;> rfl
@[simp] theorem cmpD_isNotN {d : D} : cmpD .IsNot d .non = some (!decide (d = .non)) := by cases d <;> rfl
@[simp] theorem truD_bl {b : Bool} : truD (.bl b) = some b := (rfl)
@[simp] theorem ixD_tup {xs : List D} {i : Int} : ixD (.tup xs) (.int i) = L2.atI xs i := (rfl)
@[simp] theorem ixD_lst {xs : List D} {i : Int} : ixD (.lst xs) (.int i) = L2.atI xs i := (rfl)
end
theorem atI_nat {α : Type} {xs : List α} {i : Nat} (h : i < xs.length) : L2.atI xs (i : Int) = some xs[i] := by
  unfold L2.atI L2.ixN
  rw [if_pos (by omega), if_pos (by omega)]
  simp [h]
theorem atI_last {α : Type} {xs : List α} {x : α} : L2.atI (xs ++ [x]) (-1) = some x := by
  unfold L2.atI L2.ixN
  rw [if_neg (by omega), if_pos (by simp; omega)]
  have e : (-1 + ((xs ++ [x]).length : Int)).toNat = xs.length := by simp; omega
  simp only [Option.bind_some, e]
  simp
theorem mulS {i j : Int} (h : smallI i) : mulOK i j := .inl h
theorem mulS' {i j : Int} (h : smallI j) : mulOK i j := .inr (.inl h)
end DV

set_option Elab.async false
set_option linter.all false
set_option maxRecDepth 100000
set_option maxHeartbeats 4000000
/-! DV17: lists of ints. -/
namespace DV
open PySem
def ng (ps : List Int) (i : Nat) : Int := (ps[i]?).getD 0
theorem ng_eq {ps : List Int} {i : Nat} (h : i < ps.length) : ng ps i = ps[i] := by simp [ng, h]
theorem ng_mem {ps : List Int} {i : Nat} (h : i < ps.length) : ng ps i ∈ ps := by rw [ng_eq h]; exact List.getElem_mem h
theorem at_ng {ps : List Int} {i : Nat} (h : i < ps.length) : L2.atI (ps.map D.int) (i : Int) = some (.int (ng ps i)) := by
  rw [atI_nat (by simpa using h), ng_eq h]
  simp
theorem at_ng1 {ps : List Int} {i : Nat} (h : i + 1 < ps.length) : L2.atI (ps.map D.int) ((i : Int) + 1) = some (.int (ng ps (i + 1))) := at_ng (i := i + 1) h
theorem at_ngI {ps : List Int} {i : Int} (h0 : 0 ≤ i) (h : i < ps.length) : L2.atI (ps.map D.int) i = some (.int (ng ps i.toNat)) := by
  obtain ⟨n, rfl⟩ := Int.eq_ofNat_of_zero_le h0
  exact at_ng (by omega)
theorem intsOf_map {α : Type} (f : α → Int) : ∀ xs : List α, intsOf (xs.map fun x => D.int (f x)) = some (xs.map f)
  | [] => rfl
  | x :: xs => by
    have := intsOf_map f xs
    simp only [List.map_cons, intsOf, this, Option.map_some]
theorem intsOf_ints (xs : List Int) : intsOf (xs.map D.int) = some xs := by
  have := intsOf_map id xs
  simpa using this
theorem blsOf_map {α : Type} (f : α → Bool) : ∀ xs : List α, blsOf (xs.map fun x => D.bl (f x)) = some (xs.map f)
  | [] => rfl
  | x :: xs => by
    have := blsOf_map f xs
    simp only [List.map_cons, blsOf, this, Option.map_some]
theorem toPys_ints : ∀ xs : List Int, toPys (xs.map D.int) = some (xs.map .int)
  | [] => rfl
  | x :: xs => by
    simp only [List.map_cons, toPys, toPy, toPys_ints xs]
    rfl
theorem shaped_ints (xs : List Int) : PyData.canLayAll0 (xs.map .int) = true ∧ PyData.depthAll (xs.map .int) = 0 := by
  induction xs with
  | nil => exact ⟨rfl, rfl⟩
  | cons x xs ih => simp [PyData.canLayAll0, PyData.depthAll, PyData.canLay0, PyData.depth, ih]
theorem eqvAll_ints : ∀ xs ys : List Int, PyData.eqvAll (xs.map .int) (ys.map .int) = decide (xs = ys)
  | [], [] => rfl
  | [], _ :: _ => by simp [PyData.eqvAll]
  | _ :: _, [] => by simp [PyData.eqvAll]
  | x :: xs, y :: ys => by
    simp only [List.map_cons, PyData.eqvAll, PyData.eqv, eqvAll_ints xs ys]
    rw [Bool.eq_iff_iff]; simp
theorem eqD_ints (xs ys : List Int) : eqD (.lst (xs.map .int)) (.lst (ys.map .int)) = some (decide (xs = ys)) := by
  obtain ⟨h1, h2⟩ := shaped_ints xs
  obtain ⟨h3, h4⟩ := shaped_ints ys
  simp [eqD, toPy, toPys_ints, SeqAt.shaped, PyData.canLay0, PyData.depth, h1, h2, h3, h4, PyData.eqv, eqvAll_ints]
theorem eqD_ints0 (xs : List Int) : eqD (.lst (xs.map .int)) (.lst []) = some (decide (xs = [])) := eqD_ints xs []
theorem isIn_ints (x : Int) (xs : List Int) : isIn (.int x) (.lst (xs.map .int)) = some (decide (x ∈ xs)) := by
  obtain ⟨h1, h2⟩ := shaped_ints xs
  simp only [isIn, toPy, toPys_ints]
  rw [if_pos (by simp [SeqAt.shaped, PyData.canLay0, PyData.depth, h1, h2])]
  congr 1
  rw [Bool.eq_iff_iff]
  simp [PyData.eqv]
theorem maxI_some {xs : List Int} (h : xs ≠ []) : ∃ m, maxI xs = some m ∧ m ∈ xs ∧ ∀ y ∈ xs, y ≤ m := by
  cases xs with
  | nil => exact absurd rfl h
  | cons x xs =>
    have := maxI_is (ns := x :: xs) rfl
    exact ⟨_, rfl, this.2⟩
theorem minI_some {xs : List Int} (h : xs ≠ []) : ∃ m, minI xs = some m ∧ m ∈ xs ∧ ∀ y ∈ xs, m ≤ y := by
  cases xs with
  | nil => exact absurd rfl h
  | cons x xs =>
    have := minI_is (ns := x :: xs) rfl
    exact ⟨_, rfl, this.2⟩
theorem maxI_eq {xs : List Int} {m : Int} (h : m ∈ xs) (h2 : ∀ y ∈ xs, y ≤ m) : maxI xs = some m := by
  obtain ⟨n, e, h3, h4⟩ := maxI_some (xs := xs) (fun z => by rw [z] at h; cases h)
  rw [e]
  congr 1
  have := h2 n h3
  have := h4 m h
  omega
theorem minI_eq {xs : List Int} {m : Int} (h : m ∈ xs) (h2 : ∀ y ∈ xs, m ≤ y) : minI xs = some m := by
  obtain ⟨n, e, h3, h4⟩ := minI_some (xs := xs) (fun z => by rw [z] at h; cases h)
  rw [e]
  congr 1
  have := h2 n h3
  have := h4 m h
  omega
theorem rngD_map {n : Nat} : rngD 0 n = (List.range n).map fun j => D.int (j : Nat) := by
  unfold rngD
  simp
theorem rngOK_nat {n : Nat} (h : n < 2 ^ 61) : rngOK (n : Int) := by
  have e : (2 : Int) ^ 62 = 4611686018427387904 := by decide
  have e2 : (2 : Nat) ^ 61 = 2305843009213693952 := by decide
  rw [e2] at h
  constructor <;> rw [e] <;> omega
theorem rngOK_of {i : Int} (h0 : -2305843009213693952 ≤ i) (h : i ≤ 2305843009213693952) : rngOK i := by
  have e : (2 : Int) ^ 62 = 4611686018427387904 := by decide
  constructor <;> rw [e] <;> omega
theorem small_of {i : Int} (h0 : -9223372036854775808 ≤ i) (h : i ≤ 9223372036854775808) : smallI i := by
  have e : (2 : Int) ^ 64 = 18446744073709551616 := by decide
  constructor <;> rw [e] <;> omega
theorem size1000 {n : Nat} (h : n ≤ 100000) : n ≤ sizeLine := Nat.le_trans h (by decide)
/-- range(n), walked -/
theorem items_rng {S : Store} {n : Nat} (h : n ≤ 100000) : itemsOf .rng [.p (.int (n : Int))] S = some ((List.range n).map fun j => D.int (j : Nat), []) := by
  have : rngOK (n : Int) := rngOK_nat (by omega)
  simp only [itemsOf, if_pos this]
  rw [← rngD_map]
  rfl
theorem items_rngI {S : Store} {i : Int} {n : Nat} (e : i = (n : Int)) (h : n ≤ 100000) : itemsOf .rng [.p (.int i)] S = some ((List.range n).map fun j => D.int (j : Nat), []) := by subst e; exact items_rng h
/-- what a draw does to the store -/
def VU (S S' : Store) : Prop := Has S → Up S S'
theorem VU.refl (S : Store) : VU S S := fun h => Up.refl h
theorem VU.trans {S S' S'' : Store} (a : VU S S') (b : VU S' S'') : VU S S'' := fun h => (a h).trans (b ((a h).has h))
/-- a comprehension whose turns change the store -/
theorem lc_run {call : CallF} {elt : DE} {tg : DT} {k : IK} {args ifs : List DE} {own : List Nat} {ρ : Loc} {S S1 : Store} {vs : List Sv} {ds : List D} {P : D → Prop} (ha : evL call args ρ S = .ok vs S1) (hi : itemsOf k vs S1 = some (ds, []))
    (h : ∀ d ∈ ds, ∀ S', VU S1 S' → ∃ y S'', lcTurn call elt tg ifs own ρ d S' = .ok (some y) S'' ∧ VU S' S'' ∧ P y) (hl : ds.length ≤ sizeLine) :
    ∃ ys S', evE call (.lc elt tg k args ifs own) ρ S = .ok (.p (.lst ys)) S' ∧ VU S1 S' ∧ ys.length = ds.length ∧ ∀ y ∈ ys, P y := by
  obtain ⟨ys, S', e, v, l, p⟩ := lcL_run (turn := lcTurn call elt tg ifs own ρ) (P := fun _ y => P y) (V := VU) VU.refl (fun _ _ _ => VU.trans) (S0 := S1) (ds := ds) (S := S1) (VU.refl _) h
  refine ⟨ys, S', ?_, v, l, fun y hy => ?_⟩
  · rw [evE_lc]
    unfold evI
    rw [ha]
    simp only [R.bind_ok, hi, R.of_some]
    rw [e]
    simp only [R.bind_ok]
    rw [if_pos (by rw [l]; exact hl)]
  · obtain ⟨i, hi⟩ := List.mem_iff_getElem?.mp hy
    have hil := (List.getElem?_eq_some_iff.mp hi).1
    have : (ds[i], y) ∈ ds.zip ys := by
      rw [List.mem_iff_getElem?]
      refine ⟨i, ?_⟩
      rw [List.getElem?_zip_eq_some]
      exact ⟨List.getElem?_eq_getElem (by omega), hi⟩
    exact p _ this
/-- all of them ints -/
theorem all_ints {ys : List D} {Q : Int → Prop} (h : ∀ y ∈ ys, ∃ i, y = .int i ∧ Q i) : ∃ ns : List Int, ys = ns.map .int ∧ ∀ n ∈ ns, Q n := by
  induction ys with
  | nil => exact ⟨[], rfl, fun n h => by cases h⟩
  | cons y ys ih =>
    obtain ⟨ns, rfl, h2⟩ := ih fun z hz => h z (List.mem_cons_of_mem _ hz)
    obtain ⟨i, rfl, hi⟩ := h y List.mem_cons_self
    exact ⟨i :: ns, rfl, fun n hn => (List.mem_cons.mp hn).elim (fun e => e ▸ hi) (h2 n)⟩
/-- a search: the loop hands back at the first turn with p -/
theorem forL_search {tg : DT} {body : Loc → Store → SR} {W : Watch} {S : Store} {v : Sv} (hw : watched W S = true) (I : Loc → Prop) (p : D → Bool) : ∀ (ds : List D) (ρ : Loc), I ρ →
    (∀ d ∈ ds, ∀ ρ, I ρ → ∃ ρ1, bindT tg (.p d) ρ = some ρ1 ∧ (p d = true → body ρ1 S = .ret v S) ∧ (p d = false → ∃ ρ2, body ρ1 S = .nx ρ2 S ∧ I ρ2)) →
    (ds.any p = true → forL tg body W ds ρ S = .ret v S) ∧ (ds.any p = false → ∃ ρ', forL tg body W ds ρ S = .nx ρ' S ∧ I ρ')
  | [], ρ, h0, _ => ⟨fun h => by simp at h, fun _ => ⟨ρ, by unfold forL; rw [if_pos hw], h0⟩⟩
  | d :: ds, ρ, h0, h => by
    obtain ⟨ρ1, e1, h1, h2⟩ := h d List.mem_cons_self ρ h0
    cases hp : p d with
    | true =>
      refine ⟨fun _ => ?_, fun z => by simp [hp] at z⟩
      unfold forL
      rw [if_pos hw]
      have e1' : bindT tg (.p d) ρ = some ρ1 := e1
      rw [e1']
      simp only [h1 hp, SR.turn_ret]
    | false =>
      obtain ⟨ρ2, e2, h3⟩ := h2 hp
      have ih := forL_search (v := v) hw I p ds ρ2 h3 fun d hd => h d (List.mem_cons_of_mem _ hd)
      have st : forL tg body W (d :: ds) ρ S = forL tg body W ds ρ2 S := by
        rw [forL, if_pos hw]
        have e1' : bindT tg (.p d) ρ = some ρ1 := e1
        rw [e1']
        simp only [e2, SR.turn_nx]
      rw [st]
      refine ⟨fun z => ih.1 (by simpa [hp] using z), fun z => ih.2 (by simpa [hp] using z)⟩
theorem eqD_nats0 (xs : List Nat) : eqD (.lst (xs.map fun j : Nat => D.int (j : Nat))) (.lst []) = some (decide (xs = [])) := by
  have := eqD_ints0 (xs.map fun j : Nat => (j : Int))
  rw [List.map_map] at this
  refine Eq.trans this ?_
  cases xs <;> simp
theorem fm_filter {α : Type} (p : α → Bool) (f : α → D) (g : D → Option D) (xs : List α) (h : ∀ x ∈ xs, g (f x) = if p x then some (f x) else none) : (xs.map f).filterMap g = (xs.filter p).map f := by
  induction xs with
  | nil => rfl
  | cons x xs ih =>
    have ih := ih fun y hy => h y (List.mem_cons_of_mem _ hy)
    have hx := h x List.mem_cons_self
    simp only [List.map_cons, List.filterMap_cons, hx, List.filter_cons]
    cases p x <;> simp [ih]
theorem search_of {tg : DT} {body : Loc → Store → SR} {W : Watch} {S : Store} {ds : List D} {ρ : Loc} {r : SR} (v : Sv) (hr : forL tg body W ds ρ S = r) (hw : watched W S = true) (I : Loc → Prop) (p : D → Bool) (h0 : I ρ)
    (h : ∀ d ∈ ds, ∀ ρ, I ρ → ∃ ρ1, bindT tg (.p d) ρ = some ρ1 ∧ (p d = true → body ρ1 S = .ret v S) ∧ (p d = false → ∃ ρ2, body ρ1 S = .nx ρ2 S ∧ I ρ2)) :
    (ds.any p = true ∧ r = .ret v S) ∨ (ds.any p = false ∧ ∃ ρ', r = .nx ρ' S ∧ I ρ') := by
  have := forL_search (v := v) hw I p ds ρ h0 h
  cases hp : ds.any p with
  | true => exact .inl ⟨rfl, by rw [← hr, this.1 hp]⟩
  | false =>
    obtain ⟨ρ', e, hI⟩ := this.2 hp
    exact .inr ⟨rfl, ρ', by rw [← hr, e], hI⟩
theorem all_of {tg : DT} {body : Loc → Store → SR} {W : Watch} {S : Store} {ds : List D} {ρ : Loc} {r : SR} (hr : forL tg body W ds ρ S = r) (I : Nat → Loc → Store → Prop) (h0 : I 0 ρ S) (hw : ∀ j ρ S, I j ρ S → watched W S = true)
    (h : ∀ j (hj : j < ds.length) ρ S, I j ρ S → ∃ ρ1 ρ2 S2, bindT tg (.p ds[j]) ρ = some ρ1 ∧ (body ρ1 S = .nx ρ2 S2 ∨ body ρ1 S = .ct ρ2 S2) ∧ I (j + 1) ρ2 S2) : ∃ ρ' S', r = .nx ρ' S' ∧ I ds.length ρ' S' := by
  obtain ⟨ρ', S', e, hI⟩ := forL_all I ds 0 ρ S h0 hw (fun j hj ρ S hI => by
    rw [Nat.zero_add] at hI ⊢
    exact h j hj ρ S hI)
  rw [Nat.zero_add] at hI
  exact ⟨ρ', S', by rw [← hr, e], hI⟩
theorem like_ok {T : Tab} {wf : Nat} (h : T.lookup ("_law_sort" : Str) = some df_sort) (h' : T.lookup ("_law_like" : Str) = some df_like) {S : Store} {n k : Nat} (hk : n + 2 ≤ k) {x y : D} (hx : okD n x = true) (hy : okD n y = true) :
    callF T wf k "_law_like" [.p x, .p y] S = .ok (.p (.bl (decide (x = y)))) S := by
  obtain ⟨j, rfl⟩ : ∃ j, k = n + j + 2 := ⟨k - n - 2, by omega⟩
  exact s_like h h' S n j x y hx hy
theorem like_same {T : Tab} {wf : Nat} (h : T.lookup ("_law_sort" : Str) = some df_sort) (h' : T.lookup ("_law_like" : Str) = some df_like) {S : Store} {n k : Nat} (hk : n + 2 ≤ k) {x : D} (hx : okD n x = true) :
    callF T wf k "_law_like" [.p x, .p x] S = .ok (.p (.bl true)) S := by
  rw [like_ok h h' hk hx hx]
  simp
theorem okD_ints {n : Nat} (ns : List Int) : (ns.map D.int).all (okD n) = true := by
  rw [List.all_map, List.all_eq_true]
  intro x _
  cases n <;> rfl
theorem isIn_nats (x : Int) (xs : List Nat) : isIn (.int x) (.lst (xs.map fun j : Nat => D.int (j : Nat))) = some (decide (∃ j ∈ xs, (j : Int) = x)) := by
  have := isIn_ints x (xs.map fun j : Nat => (j : Int))
  rw [List.map_map] at this
  refine Eq.trans this ?_
  congr 1
  rw [Bool.eq_iff_iff]
  simp
theorem seqE {call : CallF} {wf : Nat} {s : DS} {ss : List DS} {ρ ρ' : Loc} {S S' : Store} (h : evS call wf s ρ S = .nx ρ' S') : evB call wf (s :: ss) ρ S = evB call wf ss ρ' S' := by
  rw [evB_cons, h, SR.seq_nx]
theorem seqR {call : CallF} {wf : Nat} {s : DS} {ss : List DS} {ρ : Loc} {v : Sv} {S S' : Store} (h : evS call wf s ρ S = .ret v S') : evB call wf (s :: ss) ρ S = .ret v S' := by
  rw [evB_cons, h, SR.seq_ret]
/-- a def whose body hands back a value -/
theorem run_ret {T : Tab} {wf k : Nat} {x : Str} {d : Df} {vs : List Sv} {S S' : Store} {v : D} (h : T.lookup x = some d) (hl : vs.length = d.ps) (hb : evB (callF T wf k) wf d.body (vs.map some ++ List.replicate (d.ns - d.ps) none) S = .ret (.p v) S') :
    callF T wf (k + 1) x vs S = .ok (.p v) (S'.take S.length) := by
  rw [callF_succ h hl, hb]
  rfl
end DV

set_option Elab.async false
set_option linter.all false
set_option maxRecDepth 100000
set_option maxHeartbeats 4000000
/-! DV18: basics that many texts share; comparisons with []; a store with a list behind the cup. -/
namespace DV
open PySem
def df_is_whole : Df := ⟨3, 3, false, [
  .ret (.and (.isi (.var 0) .int) (.and (.not (.isi (.var 0) .bool)) (.chain .LtE .LtE (.var 1) (.var 0) (.var 2))))]⟩
def df_is_tuple_of : Df := ⟨3, 3, false, [
  .ret (.and (.isi (.var 0) .tuple) (.chain .LtE .LtE (.var 1) (.bi .len [(.var 0)]) (.var 2)))]⟩
def wh (d : D) (lo hi : Int) : Bool := match d with
  | .int x => decide (lo ≤ x) && decide (x ≤ hi)
  | _ => false
def tupN (d : D) (lo hi : Int) : Bool := match d with
  | .tup xs => decide (lo ≤ xs.length) && decide ((xs.length : Int) ≤ hi)
  | _ => false
section
variable {T : Tab} {wf k : Nat} {S : Store}
theorem g_is_whole (h : T.lookup ("is_whole" : Str) = some df_is_whole) (d : D) (lo hi : Int) (hd : flatD d = true) : callF T wf (k + 1) "is_whole" [.p d, .p (.int lo), .p (.int hi)] S = .ok (.p (.bl (wh d lo hi))) S := by
  rw [callF_succ h rfl]
  cases d with
  | int x => by_cases h1 : lo ≤ x <;> simp [df_is_whole, isiD, wh, h1]
  | scr _ => cases hd
  | fn _ => cases hd
  | dct _ _ => cases hd
  | _ => simp [df_is_whole, isiD, wh]
theorem g_is_tuple_of (h : T.lookup ("is_tuple_of" : Str) = some df_is_tuple_of) (d : D) (lo hi : Int) (hd : flatD d = true) : callF T wf (k + 1) "is_tuple_of" [.p d, .p (.int lo), .p (.int hi)] S = .ok (.p (.bl (tupN d lo hi))) S := by
  rw [callF_succ h rfl]
  cases d with
  | tup xs => by_cases h1 : lo ≤ xs.length <;> simp [df_is_tuple_of, isiD, ders, biF, biLen, h1, tupN]
  | scr _ => cases hd
  | fn _ => cases hd
  | dct _ _ => cases hd
  | _ => simp [df_is_tuple_of, isiD, tupN]
end
/-! data as the library sees it -/
theorem okD_py : ∀ (n : Nat) (d : D), okD n d = true → ∃ p, toPy d = some p ∧ p.canLay0 = true ∧ p.depth ≤ n
  | n, .non, _ => ⟨_, rfl, rfl, Nat.zero_le _⟩
  | n, .bl _, _ => ⟨_, rfl, rfl, Nat.zero_le _⟩
  | n, .int _, _ => ⟨_, rfl, rfl, Nat.zero_le _⟩
  | n, .str x, h => ⟨_, rfl, by cases n <;> exact h, Nat.zero_le _⟩
  | 0, .tup _, h => by cases h
  | 0, .lst _, h => by cases h
  | n + 1, .tup xs, h => by
    obtain ⟨m, hm, _, hx⟩ := okD_elems (n := n + 1) (xs := xs) (.inl h)
    cases hm
    have : ∀ xs : List D, (∀ d ∈ xs, okD n d = true) → ∃ ps, toPys xs = some ps ∧ PyData.canLayAll0 ps = true ∧ PyData.depthAll ps ≤ n := by
      intro xs
      induction xs with
      | nil => intro _; exact ⟨[], rfl, rfl, Nat.zero_le _⟩
      | cons x xs ih =>
        intro hx
        obtain ⟨ps, h1, h2, h3⟩ := ih fun d hd => hx d (List.mem_cons_of_mem _ hd)
        obtain ⟨p, q1, q2, q3⟩ := okD_py n x (hx x List.mem_cons_self)
        exact ⟨p :: ps, by simp only [toPys, q1, h1]; rfl, by simp [PyData.canLayAll0, q2, h2], by simp only [PyData.depthAll]; omega⟩
    obtain ⟨ps, h1, h2, h3⟩ := this xs hx
    exact ⟨.tuple ps, by simp [toPy, h1], by simp [PyData.canLay0, h2], by simp only [PyData.depth]; omega⟩
  | n + 1, .lst xs, h => by
    obtain ⟨m, hm, _, hx⟩ := okD_elems (n := n + 1) (xs := xs) (.inr h)
    cases hm
    have : ∀ xs : List D, (∀ d ∈ xs, okD n d = true) → ∃ ps, toPys xs = some ps ∧ PyData.canLayAll0 ps = true ∧ PyData.depthAll ps ≤ n := by
      intro xs
      induction xs with
      | nil => intro _; exact ⟨[], rfl, rfl, Nat.zero_le _⟩
      | cons x xs ih =>
        intro hx
        obtain ⟨ps, h1, h2, h3⟩ := ih fun d hd => hx d (List.mem_cons_of_mem _ hd)
        obtain ⟨p, q1, q2, q3⟩ := okD_py n x (hx x List.mem_cons_self)
        exact ⟨p :: ps, by simp only [toPys, q1, h1]; rfl, by simp [PyData.canLayAll0, q2, h2], by simp only [PyData.depthAll]; omega⟩
    obtain ⟨ps, h1, h2, h3⟩ := this xs hx
    exact ⟨.list ps, by simp [toPy, h1], by simp [PyData.canLay0, h2], by simp only [PyData.depth]; omega⟩
  | _, .scr _, h => by simp [okD] at h
  | _, .fn _, h => by simp [okD] at h
  | _, .dct _ _, h => by simp [okD] at h
theorem okDs_py {n : Nat} : ∀ {xs : List D}, (∀ d ∈ xs, okD n d = true) → ∃ ps, toPys xs = some ps ∧ ps.length = xs.length ∧ PyData.canLayAll0 ps = true ∧ PyData.depthAll ps ≤ n
  | [], _ => ⟨[], rfl, rfl, rfl, Nat.zero_le _⟩
  | x :: xs, hx => by
    obtain ⟨ps, h1, h0, h2, h3⟩ := okDs_py (xs := xs) fun d hd => hx d (List.mem_cons_of_mem _ hd)
    obtain ⟨p, q1, q2, q3⟩ := okD_py n x (hx x List.mem_cons_self)
    exact ⟨p :: ps, by simp only [toPys, q1, h1]; rfl, by simp [h0], by simp [PyData.canLayAll0, q2, h2], by simp only [PyData.depthAll]; omega⟩
/-- a list of data against [] -/
theorem eqD_nilG {n : Nat} {xs : List D} (hn : n ≤ 60) (hx : ∀ d ∈ xs, okD n d = true) : eqD (.lst xs) (.lst []) = some (decide (xs = [])) := by
  obtain ⟨ps, h1, h0, h2, h3⟩ := okDs_py hx
  have s1 : SeqAt.shaped (.list ps) = true := by
    simp [SeqAt.shaped, PyData.canLay0, PyData.depth, h2]; omega
  simp only [eqD, toPy, h1, toPys, Option.map_some, s1, show SeqAt.shaped (.list []) = true from rfl, and_self, if_true]
  cases ps <;> cases xs <;> simp [PyData.eqv, PyData.eqvAll] at h0 ⊢
theorem eqD_ones {c : D → Bool} (ds : List D) : eqD (.lst (ds.filterMap fun d => if c d then some (D.int 1) else none)) (.lst []) = some (!ds.any c) := by
  rw [eqD_nil (fun d hd => ?_)]
  · congr 1
    induction ds with
    | nil => rfl
    | cons d ds ih => cases h : c d <;> simp [List.filterMap_cons, h] at ih ⊢ <;> exact ih
  · obtain ⟨e, _, he⟩ := List.mem_filterMap.mp hd
    split at he
    · cases he; rfl
    · cases he
/-- [1 for .. if c] -/
theorem lc_ones {call : CallF} {tg : DT} {k : IK} {args ifs : List DE} {own : List Nat} {ρ : Loc} {S : Store} {vs : List Sv} {ds : List D} {W : Watch} (ha : evL call args ρ S = .ok vs S) (hi : itemsOf k vs S = some (ds, W)) (hw : watched W S = true)
    (c : D → Bool) (hc : ∀ d ∈ ds, lcTurn call (.con (.int 1)) tg ifs own ρ d S = .ok (if c d then some (.int 1) else none) S) (hl : ds.length ≤ sizeLine) :
    evE call (.lc (.con (.int 1)) tg k args ifs own) ρ S = .ok (.p (.lst (ds.filterMap fun d => if c d then some (D.int 1) else none))) S :=
  lc_pure ha hi hw _ hc hl
/-- a comprehension without tests -/
theorem lc_map {call : CallF} {elt : DE} {tg : DT} {k : IK} {args : List DE} {own : List Nat} {ρ : Loc} {S : Store} {vs : List Sv} {ds : List D} {W : Watch} (ha : evL call args ρ S = .ok vs S) (hi : itemsOf k vs S = some (ds, W)) (hw : watched W S = true)
    (f : D → D) (hf : ∀ d ∈ ds, lcTurn call elt tg [] own ρ d S = .ok (some (f d)) S) (hl : ds.length ≤ sizeLine) : evE call (.lc elt tg k args [] own) ρ S = .ok (.p (.lst (ds.map f))) S := by
  rw [lc_pure ha hi hw (fun d => some (f d)) hf hl]
  congr 3
  induction ds with
  | nil => rfl
  | cons d ds ih => simp
/-! a store with a list behind the cup -/
def WS (S : Store) (xs : List D) (St : Store) : Prop := ∃ a b, CupOk a b ∧ St = S.set 0 (Cup a b) ++ [Cell.lst xs]
section
variable {S : Store} {xs : List D} {St St' : Store}
theorem WS.len (w : WS S xs St) : St.length = S.length + 1 := by
  obtain ⟨a, b, _, rfl⟩ := w
  simp
theorem WS.has (hS : Has S) (w : WS S xs St) : Has St := by
  obtain ⟨a, b, ok, rfl⟩ := w
  refine ⟨a, b, ok, ?_⟩
  rw [List.getElem?_append_left (by simpa using hS.len)]
  exact List.getElem?_set_self hS.len
theorem WS.up (hS : Has S) (w : WS S xs St) (u : Up St St') : WS S xs St' := by
  obtain ⟨a, b, ok, rfl⟩ := w
  obtain ⟨c, d, ok', rfl⟩ := u
  refine ⟨c, d, ok', ?_⟩
  rw [List.set_append_left _ _ (by simpa using hS.len), List.set_set]
theorem WS.get (w : WS S xs St) : St[S.length]? = some (.lst xs) := by
  obtain ⟨a, b, ok, rfl⟩ := w
  rw [List.getElem?_append_right (by simp)]
  simp
theorem WS.put (w : WS S xs St) (ys : List D) : WS S ys (St.set S.length (.lst ys)) := by
  obtain ⟨a, b, ok, rfl⟩ := w
  refine ⟨a, b, ok, ?_⟩
  rw [List.set_append_right _ _ (by simp)]
  simp
theorem WS.take (w : WS S xs St) : Up S (St.take S.length) := by
  obtain ⟨a, b, ok, rfl⟩ := w
  refine ⟨a, b, ok, ?_⟩
  rw [List.take_append_of_le_length (by simp)]
  exact List.take_of_length_le (by simp)
theorem WS.start (hS : Has S) : WS S xs (S ++ [.lst xs]) := by
  obtain ⟨a, b, ok, e⟩ := Up.refl hS
  exact ⟨a, b, ok, by rw [← e]⟩
end
/-- a loop that hands back the first that is found -/
theorem find_of {tg : DT} {body : Loc → Store → SR} {W : Watch} {S : Store} (hw : watched W S = true) (I : Loc → Prop) (f : D → Option Sv) : ∀ {ds : List D} {ρ : Loc} {r : SR}, forL tg body W ds ρ S = r → I ρ →
    (∀ d ∈ ds, ∀ ρ, I ρ → ∃ ρ1, bindT tg (.p d) ρ = some ρ1 ∧ (∀ v, f d = some v → body ρ1 S = .ret v S) ∧ (f d = none → ∃ ρ2, body ρ1 S = .nx ρ2 S ∧ I ρ2)) →
    (∃ v, ds.findSome? f = some v ∧ r = .ret v S) ∨ (ds.findSome? f = none ∧ ∃ ρ', r = .nx ρ' S ∧ I ρ')
  | [], ρ, r, hr, h0, _ => .inr ⟨rfl, ρ, by rw [← hr]; unfold forL; rw [if_pos hw], h0⟩
  | d :: ds, ρ, r, hr, h0, h => by
    obtain ⟨ρ1, e1, h1, h2⟩ := h d List.mem_cons_self ρ h0
    have e1' : bindT tg (.p d) ρ = some ρ1 := e1
    cases hf : f d with
    | some v =>
      left
      refine ⟨v, by rw [List.findSome?_cons, hf], ?_⟩
      rw [← hr]
      unfold forL
      rw [if_pos hw, e1']
      simp only [h1 v hf, SR.turn_ret]
    | none =>
      obtain ⟨ρ2, e2, h3⟩ := h2 hf
      have st : forL tg body W (d :: ds) ρ S = forL tg body W ds ρ2 S := by
        rw [forL, if_pos hw, e1']
        simp only [e2, SR.turn_nx]
      rw [st] at hr
      rcases find_of hw I f hr h3 fun d hd => h d (List.mem_cons_of_mem _ hd) with ⟨v, q1, q2⟩ | ⟨q1, q2⟩
      · exact .inl ⟨v, by rw [List.findSome?_cons, hf]; exact q1, q2⟩
      · exact .inr ⟨by rw [List.findSome?_cons, hf]; exact q1, q2⟩
/-- range(i, j), walked -/
theorem items_rngN2 {S : Store} {i j : Nat} (h : j ≤ 100000) (hi : i ≤ 100000) : itemsOf .rng [.p (.int (i : Int)), .p (.int (j : Int))] S = some ((List.range (j - i)).map fun m => D.int ((i + m : Nat) : Int), []) := by
  have h1 : rngOK (i : Int) := rngOK_nat (by omega)
  have h2 : rngOK (j : Int) := rngOK_nat (by omega)
  simp only [itemsOf, if_pos (And.intro h1 h2)]
  congr 2
  unfold rngD
  rw [show ((j : Int) - i).toNat = j - i by omega]
  refine List.map_congr_left fun m _ => ?_
  congr 1
theorem mul_bd {x y : Int} {B C : Int} (hx : -B ≤ x) (hx2 : x ≤ B) (hy : -C ≤ y) (hy2 : y ≤ C) : -(B * C) ≤ x * y ∧ x * y ≤ B * C := by
  have hB : 0 ≤ B := by omega
  have hC : 0 ≤ C := by omega
  have : (x * y).natAbs ≤ (B * C).natAbs := by
    rw [Int.natAbs_mul, Int.natAbs_mul]
    exact Nat.mul_le_mul (by omega) (by omega)
  have h2 : 0 ≤ B * C := Int.mul_nonneg hB hC
  omega
def ab (x : Int) : Int := if x < 0 then -x else x
theorem ab_bd {x B : Int} (h1 : -B ≤ x) (h2 : x ≤ B) : 0 ≤ ab x ∧ ab x ≤ B := by unfold ab; split <;> omega
theorem biAbs_ab {x : Int} : biAbs [.int x] = some (.int (ab x)) := rfl
end DV

set_option Elab.async false
set_option linter.all false
set_option maxRecDepth 100000
set_option maxHeartbeats 4000000
/-! DV19: _law_mixed. -/
namespace DV
open PySem
def df_mixed : Df := ⟨2, 5, false, [
  .parN [2, 3] [true, true] [(.bi .list [(.var 1)]), (.lst [])],
  .for (.name 4) .rng [(.bi .len [(.var 1)])] [.app (.var 3) (.pop (.var 2) (.call "_law_roll" false [(.var 0), (.bi .len [(.var 2)])]))],
  .ret (.bi .tuple [(.var 3)])]⟩
/-- two lists behind the cup -/
def WT (S : Store) (xs ys : List D) (St : Store) : Prop := ∃ a b, CupOk a b ∧ St = S.set 0 (Cup a b) ++ [Cell.lst xs, Cell.lst ys]
section
variable {S : Store} {xs ys : List D} {St St' : Store}
theorem WT.has (hS : Has S) (w : WT S xs ys St) : Has St := by
  obtain ⟨a, b, ok, rfl⟩ := w
  refine ⟨a, b, ok, ?_⟩
  rw [List.getElem?_append_left (by simpa using hS.len)]
  exact List.getElem?_set_self hS.len
theorem WT.up (hS : Has S) (w : WT S xs ys St) (u : Up St St') : WT S xs ys St' := by
  obtain ⟨a, b, ok, rfl⟩ := w
  obtain ⟨c, d, ok', rfl⟩ := u
  refine ⟨c, d, ok', ?_⟩
  rw [List.set_append_left _ _ (by simpa using hS.len), List.set_set]
theorem WT.get0 (w : WT S xs ys St) : St[S.length]? = some (.lst xs) := by
  obtain ⟨a, b, ok, rfl⟩ := w
  rw [List.getElem?_append_right (by simp)]
  simp
theorem WT.get1 (w : WT S xs ys St) : St[S.length + 1]? = some (.lst ys) := by
  obtain ⟨a, b, ok, rfl⟩ := w
  rw [List.getElem?_append_right (by simp)]
  simp
theorem WT.put0 (w : WT S xs ys St) (zs : List D) : WT S zs ys (St.set S.length (.lst zs)) := by
  obtain ⟨a, b, ok, rfl⟩ := w
  refine ⟨a, b, ok, ?_⟩
  rw [List.set_append_right _ _ (by simp)]
  simp
theorem WT.put1 (w : WT S xs ys St) (zs : List D) : WT S xs zs (St.set (S.length + 1) (.lst zs)) := by
  obtain ⟨a, b, ok, rfl⟩ := w
  refine ⟨a, b, ok, ?_⟩
  rw [List.set_append_right _ _ (by simp)]
  simp
theorem WT.take (w : WT S xs ys St) : Up S (St.take S.length) := by
  obtain ⟨a, b, ok, rfl⟩ := w
  refine ⟨a, b, ok, ?_⟩
  rw [List.take_append_of_le_length (by simp)]
  exact List.take_of_length_le (by simp)
end
theorem perm_erase {α : Type} : ∀ (xs : List α) (m : Nat) (h : m < xs.length), (xs[m] :: xs.eraseIdx m).Perm xs
  | x :: xs, 0, _ => List.Perm.refl _
  | x :: xs, m + 1, h => by
    have ih := perm_erase xs m (by simpa using h)
    refine List.Perm.trans (List.Perm.swap _ _ _) ?_
    exact List.Perm.cons x ih
theorem perm_pop {α : Type} {xs ys zs : List α} {m : Nat} {x : α} (h : (ys ++ xs).Perm zs) (hm : xs[m]? = some x) : ((ys ++ [x]) ++ xs.eraseIdx m).Perm zs := by
  refine List.Perm.trans ?_ h
  rw [List.append_assoc]
  refine List.Perm.append_left ys ?_
  obtain ⟨h1, rfl⟩ := List.getElem?_eq_some_iff.mp hm
  exact perm_erase xs m h1
theorem s_mixed {T : Tab} {wf k : Nat} (h : T.lookup ("_law_roll" : Str) = some df_roll) (h' : T.lookup ("_law_mixed" : Str) = some df_mixed) {zs : List D} {d : D} (hd : d = .lst zs ∨ d = .tup zs) (hz : zs.length ≤ 1000) {S : Store} (hS : Has S) :
    ∃ ys S', ys.Perm zs ∧ Up S S' ∧ callF T wf (k + 2) "_law_mixed" [.c 0, .p d] S = .ok (.p (.tup ys)) S' := by
  have hlist : biList [d] = some (.lst zs) := by rcases hd with rfl | rfl <;> rfl
  have hlen : biLen [d] = some (.int zs.length) := by rcases hd with rfl | rfl <;> rfl
  have st2 : ∃ ρ S' ys, ys.Perm zs ∧ WT S [] ys S' ∧ (∃ y, ρ = [some (.c 0), some (.p d), some (.c S.length), some (.c (S.length + 1)), y]) ∧
      evS (callF T wf (k + 1)) wf (.for (.name 4) .rng [(.bi .len [(.var 1)])] [.app (.var 3) (.pop (.var 2) (.call "_law_roll" false [(.var 0), (.bi .len [(.var 2)])]))]) [some (.c 0), some (.p d), some (.c S.length), some (.c (S.length + 1)), none] (S ++ [.lst zs, .lst []]) = .nx ρ S' := by
    rw [evS_for (vs := [.p (.int (zs.length : Int))]) (S1 := S ++ [.lst zs, .lst []]) (ds := (List.range zs.length).map fun m => D.int (m : Nat)) (W := []) (by simp [ders, biF, hlen]) (items_rng (by omega))]
    generalize hr : forL _ _ _ _ _ _ = res
    obtain ⟨ρ', S', rfl, xs, ys, hxl, hp, hW, hρ⟩ := all_of hr (fun j ρ St => ∃ xs ys, xs.length + j = zs.length ∧ (ys ++ xs).Perm zs ∧ WT S xs ys St ∧ ∃ y, ρ = [some (.c 0), some (.p d), some (.c S.length), some (.c (S.length + 1)), y])
      ⟨zs, [], rfl, List.Perm.refl _, by
        obtain ⟨a, b, ok, e⟩ := Up.refl hS
        exact ⟨a, b, ok, by rw [← e]⟩, _, rfl⟩ (fun _ _ _ _ => rfl) (fun j hj ρ St hI => by
        obtain ⟨xs, ys, hxl, hp, hW, y, rfl⟩ := hI
        have hj' : j < zs.length := by simpa using hj
        have hSt := hW.has hS
        obtain ⟨v, St2, v0, v1, u, e⟩ := s_roll (T := T) (wf := wf) (k := k) h (m := (xs.length : Int)) (by omega) (by omega) hSt
        obtain ⟨m, rfl⟩ := Int.eq_ofNat_of_zero_le v0
        have hm : m < xs.length := by omega
        have hW2 := hW.up hS u
        have hW3 := hW2.put0 (xs.eraseIdx m)
        have hix : L2.ixN xs.length (m : Int) = some m := by
          unfold L2.ixN
          rw [if_pos (by omega), if_pos v1]
          rfl
        have hyl : ys.length < sizeLine := by
          have := hp.length_eq
          simp at this
          exact Nat.lt_of_le_of_lt (by omega : ys.length ≤ 1000) (by decide)
        have hg0 := hW.get0
        have hg2 := hW2.get0
        have hg3 := hW3.get1
        have hb : -(2 ^ 63) ≤ (m : Int) ∧ (m : Int) < 2 ^ 63 := ⟨by omega, by omega⟩
        have hi0 : isLst St S.length = true := by rw [isLst_def, hg0]
        have hi1 : isLst St (S.length + 1) = true := by rw [isLst_def, hW.get1]
        rw [show ((List.range zs.length).map fun m => D.int (m : Nat))[j] = .int (j : Nat) by simp]
        have eb : evB (callF T wf (k + 1)) wf [.app (.var 3) (.pop (.var 2) (.call "_law_roll" false [(.var 0), (.bi .len [(.var 2)])]))] [some (.c 0), some (.p d), some (.c S.length), some (.c (S.length + 1)), some (.p (.int j))] St = .nx [some (.c 0), some (.p d), some (.c S.length), some (.c (S.length + 1)), some (.p (.int j))] ((St2.set S.length (.lst (xs.eraseIdx m))).set (S.length + 1) (.lst (ys ++ [xs[m]]))) := by
          simp only [evB_cons, evB_nil, evS_app, hi0, hi1, if_true, evE_var, lget_succ, lget_zero, R.of_some, R.st_ok, evE_pop, R.bind_ok, evE_call, evL_cons, evL_nil, evE_bi, ders, der, hg0, biF, biLen, Option.map_some, e, hg2, if_pos hb, hix, List.getElem?_eq_getElem hm, hg3, if_pos hyl, SR.seq_nx]
        exact ⟨_, _, _, rfl, .inl eb, xs.eraseIdx m, ys ++ [xs[m]], by rw [List.length_eraseIdx, if_pos hm]; omega, perm_pop hp (List.getElem?_eq_getElem hm), hW3.put1 _, _, rfl⟩)
    rw [List.length_map, List.length_range] at hxl
    have hx0 : xs = [] := List.eq_nil_of_length_eq_zero (by omega)
    subst hx0
    exact ⟨_, S', ys, by simpa using hp, hW, hρ, rfl⟩
  obtain ⟨ρ, S', ys, hp, hW, ⟨y, rfl⟩, st2⟩ := st2
  have hg := hW.get1
  refine ⟨ys, _, hp, hW.take, ?_⟩
  refine run_ret h' rfl ?_
  refine (seqE (ρ' := [some (.c 0), some (.p d), some (.c S.length), some (.c (S.length + 1)), none]) (S' := S ++ [.lst zs, .lst []]) ?_).trans ?_
  · simp [df_mixed, ders, biF, hlist, ownV, frsh, biFresh, pures, List.replicate]
  refine (seqE st2).trans ?_
  refine seqR ?_
  simp [ders, der, hg, biF, biTuple]
end DV

set_option Elab.async false
set_option linter.all false
set_option maxRecDepth 100000
set_option maxHeartbeats 4000000
/-! DV20: slices, data one deeper, bodies statement by statement, _law_bent. -/
namespace DV
open PySem
theorem cut_to {xs : List D} {i : Nat} (h : i ≤ xs.length) : cutD xs none (some (i : Int)) = xs.take i := by
  unfold cutD
  rw [HT.sIx_nat, HT.sIx_none, Nat.min_eq_left h]
  simp
theorem cut_from {xs : List D} {i : Nat} (h : i ≤ xs.length) : cutD xs (some (i : Int)) none = xs.drop i := by
  unfold cutD
  rw [HT.sIx_nat, HT.sIx_none, Nat.min_eq_left h]
  exact List.take_of_length_le (by simp)
theorem cut_len {xs : List D} {a b : Option Int} : (cutD xs a b).length ≤ xs.length := by
  unfold cutD
  simp
  omega
theorem cut_mem {xs : List D} {a b : Option Int} {d : D} (h : d ∈ cutD xs a b) : d ∈ xs := by
  unfold cutD at h
  exact List.mem_of_mem_drop (List.mem_of_mem_take h)
/-- a tuple against () -/
theorem eqD_nilT {n : Nat} {xs : List D} (hn : n ≤ 60) (hx : ∀ d ∈ xs, okD n d = true) : eqD (.tup xs) (.tup []) = some (decide (xs = [])) := by
  obtain ⟨ps, h1, h0, h2, h3⟩ := okDs_py hx
  have s1 : SeqAt.shaped (.tuple ps) = true := by
    simp [SeqAt.shaped, PyData.canLay0, PyData.depth, h2]; omega
  simp only [eqD, toPy, h1, toPys, Option.map_some, s1, show SeqAt.shaped (.tuple []) = true from rfl, and_self, if_true]
  cases ps <;> cases xs <;> simp [PyData.eqv, PyData.eqvAll] at h0 ⊢
theorem strOk_of (x : String) : PyData.strOk (Str.ofString x) = true := by
  rw [Str.ofString_eq_toList]
  simp only [PyData.strOk]
  simp
  intro c _
  have := c.valid
  unfold UInt32.isValidChar Nat.isValidChar at this
  unfold Char.toNat
  omega
/-- values that can be bent -/
def Bt : Nat → D → Prop
  | _, .non => True
  | _, .int i => i.natAbs ≤ 1000000000
  | n + 1, .tup xs => xs.length ≤ 900 ∧ ∀ d ∈ xs, Bt n d
  | _, _ => False
theorem Bt.ok : ∀ {n : Nat} {d : D}, Bt n d → okD n d = true
  | n, .non, _ => by cases n <;> rfl
  | n, .int i, _ => by cases n <;> rfl
  | 0, .tup xs, h => by cases h
  | n + 1, .tup xs, h => by
    have h : xs.length ≤ 900 ∧ ∀ d ∈ xs, Bt n d := h
    simp only [okD, Bool.and_eq_true, decide_eq_true_eq, List.all_eq_true]
    exact ⟨by omega, fun d hd => (h.2 d hd).ok⟩
  | n, .bl _, h => by cases n <;> cases h
  | n, .str _, h => by cases n <;> cases h
  | n, .lst _, h => by cases n <;> cases h
  | n, .scr _, h => by cases n <;> cases h
  | n, .fn _, h => by cases n <;> cases h
  | n, .dct _ _, h => by cases n <;> cases h
theorem okD_tupI {n : Nat} {xs : List D} (h : xs.length ≤ 1000) (h2 : ∀ d ∈ xs, okD n d = true) : okD (n + 1) (.tup xs) = true := by
  simp only [okD, Bool.and_eq_true, decide_eq_true_eq, List.all_eq_true]
  exact ⟨h, h2⟩
theorem okD_lstI {n : Nat} {xs : List D} (h : xs.length ≤ 1000) (h2 : ∀ d ∈ xs, okD n d = true) : okD (n + 1) (.lst xs) = true := by
  simp only [okD, Bool.and_eq_true, decide_eq_true_eq, List.all_eq_true]
  exact ⟨h, h2⟩
theorem okD_up : ∀ {n : Nat} {d : D}, okD n d = true → okD (n + 1) d = true
  | n, .non, _ => by cases n <;> rfl
  | n, .bl _, _ => by cases n <;> rfl
  | n, .int i, _ => by cases n <;> rfl
  | n, .str _, h => by cases n <;> exact h
  | 0, .tup xs, h => by cases h
  | 0, .lst xs, h => by cases h
  | n + 1, .tup xs, h => by
    simp only [okD, Bool.and_eq_true, decide_eq_true_eq, List.all_eq_true] at h
    exact okD_tupI h.1 fun d hd => okD_up (h.2 d hd)
  | n + 1, .lst xs, h => by
    simp only [okD, Bool.and_eq_true, decide_eq_true_eq, List.all_eq_true] at h
    exact okD_lstI h.1 fun d hd => okD_up (h.2 d hd)
  | n, .scr _, h => by simp [okD] at h
  | n, .fn _, h => by simp [okD] at h
  | n, .dct _ _, h => by simp [okD] at h
theorem stepE {call : CallF} {wf : Nat} {b : List DS} {ρ ρ' : Loc} {S S' : Store} (i : Nat) (hi : i < b.length) (h : evS call wf (b.getD i .pass) ρ S = .nx ρ' S') : evB call wf (b.drop i) ρ S = evB call wf (b.drop (i + 1)) ρ' S' := by
  rw [List.drop_eq_getElem_cons hi]
  refine seqE ?_
  rw [← h, List.getD_eq_getElem?_getD, List.getElem?_eq_getElem hi]
  rfl
theorem stepR {call : CallF} {wf : Nat} {b : List DS} {ρ : Loc} {v : Sv} {S S' : Store} (i : Nat) (hi : i < b.length) (h : evS call wf (b.getD i .pass) ρ S = .ret v S') : evB call wf (b.drop i) ρ S = .ret v S' := by
  rw [List.drop_eq_getElem_cons hi]
  refine seqR ?_
  rw [← h, List.getD_eq_getElem?_getD, List.getElem?_eq_getElem hi]
  rfl
def df_bent : Df := ⟨2, 4, false, [
  .ife (.and (.isi (.var 1) .tuple) (.and (.cmp .NotEq (.var 1) (.tup [])) (.cmp .Gt (.call "_law_roll" false [(.var 0), (.con (.int 4))]) (.con (.int 0))))) [.asg (.name 2) (.call "_law_roll" false [(.var 0), (.bi .len [(.var 1)])]), .ret (.bin .Add (.bin .Add (.sl (.var 1) none (some (.var 2))) (.tup [(.call "_law_bent" false [(.var 0), (.ix (.var 1) (.var 2))])])) (.sl (.var 1) (some (.bin .Add (.var 2) (.con (.int 1)))) none))] [],
  .asg (.name 3) (.call "_law_roll" false [(.var 0), (.con (.int 5))]),
  .ife (.isi (.var 1) .tuple) [.asg (.name 2) (.call "_law_roll" false [(.var 0), (.bin .Add (.bi .len [(.var 1)]) (.con (.int 1)))]), .ife (.cmp .Eq (.var 3) (.con (.int 0))) [.ret (.bi .list [(.var 1)])] [], .ife (.cmp .Eq (.var 3) (.con (.int 1))) [.ret (.bin .Add (.sl (.var 1) none (some (.var 2))) (.sl (.var 1) (some (.bin .Add (.var 2) (.con (.int 1)))) none))] [], .ret (.ife (.cmp .Eq (.var 3) (.con (.int 2))) (.bin .Add (.bin .Add (.sl (.var 1) none (some (.var 2))) (.bin .Mult (.sl (.var 1) (some (.var 2)) (some (.bin .Add (.var 2) (.con (.int 1))))) (.con (.int 2)))) (.sl (.var 1) (some (.bin .Add (.var 2) (.con (.int 1)))) none)) (.ife (.cmp .Eq (.var 3) (.con (.int 3))) (.rev (.var 1)) (.con .non)))] [],
  .ife (.or (.cmp .Is (.var 1) (.con .non)) (.isi (.var 1) .str)) [.ret (.call "_law_some" false [(.var 0), (.lst [(.con (.int 0)), (.con (.int 1)), (.tup []), (.con (.str "")), (.con .non), (.tup [(.con (.str "sign"))])])])] [],
  .ret (.call "_law_some" false [(.var 0), (.lst [(.bin .Add (.var 1) (.con (.int 1))), (.bin .Sub (.var 1) (.con (.int 1))), (.neg (.var 1)), (.cmp .Eq (.var 1) (.con (.int 1))), (.con .non), (.con (.int 0)), (.bi .str [(.var 1)]), (.tup [(.var 1)])])])]⟩
section
variable {T : Tab} {wf k : Nat} {S : Store}
theorem rollB (hr : T.lookup ("_law_roll" : Str) = some df_roll) {m : Int} (h0 : 0 < m) (h1 : m < 2 ^ 64) (hS : Has S) : ∃ (v : Int) (S' : Store), 0 ≤ v ∧ v < m ∧ Up S S' ∧ callF T wf (k + 1) "_law_roll" [.c 0, .p (.int m)] S = .ok (.p (.int v)) S' := s_roll hr h0 h1 hS
def leaf0 : List D := [.int 0, .int 1, .tup [], .str "", .non, .tup [.str "sign"]]
theorem some0 (hr : T.lookup ("_law_roll" : Str) = some df_roll) (hs : T.lookup ("_law_some" : Str) = some df_some) (hS : Has S) : ∃ x S', okD 1 x = true ∧ Up S S' ∧ callF T wf (k + 2) "_law_some" [.c 0, .p (.lst leaf0)] S = .ok (.p x) S' := by
  obtain ⟨x, S', hx, u, e⟩ := s_some (T := T) (wf := wf) (k := k) hr hs (xs := leaf0) (by simp [leaf0]) (by simp [leaf0]) hS
  refine ⟨x, S', ?_, u, e⟩
  have : leaf0.all (okD 1) = true := by decide +kernel
  exact List.all_eq_true.mp this x hx
def leaf1 (i : Int) : List D := [.int (i + 1), .int (i - 1), .int (-i), .bl (decide (i = 1)), .non, .int 0, .str (Str.ofString i.repr), .tup [.int i]]
theorem some1 (hr : T.lookup ("_law_roll" : Str) = some df_roll) (hs : T.lookup ("_law_some" : Str) = some df_some) (i : Int) (hS : Has S) : ∃ x S', okD 1 x = true ∧ Up S S' ∧ callF T wf (k + 2) "_law_some" [.c 0, .p (.lst (leaf1 i))] S = .ok (.p x) S' := by
  obtain ⟨x, S', hx, u, e⟩ := s_some (T := T) (wf := wf) (k := k) hr hs (xs := leaf1 i) (by simp [leaf1]) (by simp [leaf1]) hS
  refine ⟨x, S', ?_, u, e⟩
  simp only [leaf1, List.mem_cons, List.not_mem_nil, or_false] at hx
  rcases hx with rfl | rfl | rfl | rfl | rfl | rfl | rfl | rfl <;> first | rfl | (simp [okD, strOk_of])
theorem log2_1900 {m : Nat} (h : m ≤ 1000000000) : m.log2 < 1920 := by
  by_cases h0 : m = 0
  · subst h0; decide
  · have := (Nat.log2_lt h0 (k := 31)).mpr (by omega)
    omega
theorem okD_le {n m : Nat} (h : n ≤ m) {d : D} (hd : okD n d = true) : okD m d = true := by
  obtain ⟨j, rfl⟩ : ∃ j, m = n + j := ⟨m - n, by omega⟩
  induction j with
  | zero => exact hd
  | succ j ih => exact okD_up (ih (by omega))
theorem bent_leaf (hr : T.lookup ("_law_roll" : Str) = some df_roll) (hs : T.lookup ("_law_some" : Str) = some df_some) (hb : T.lookup ("_law_bent" : Str) = some df_bent) {d : D} (hd : Bt 0 d) (hS : Has S) : ∃ d' S', callF T wf (k + 3) "_law_bent" [.c 0, .p d] S = .ok (.p d') S' ∧ Up S S' ∧ okD 1 d' = true := by
  obtain ⟨v, S1, v0, v1, u1, e1⟩ := rollB hr (wf := wf) (k := k + 1) (m := 5) (by omega) (by omega) hS
  cases d with
  | non =>
    obtain ⟨x, S2, hx, u2, e2⟩ := some0 hr hs (wf := wf) (k := k) (u1.has hS)
    refine ⟨x, S2, ?_, u1.trans u2, hx⟩
    rw [callF_succ hb rfl]
    simp only [leaf0] at e2
    simp [df_bent, isiD, e1, e2, (u1.trans u2).take, (u1.trans u2).length]
  | int i =>
    obtain ⟨x, S2, hx, u2, e2⟩ := some1 hr hs (wf := wf) i (k := k) (u1.has hS)
    refine ⟨x, S2, ?_, u1.trans u2, hx⟩
    rw [callF_succ hb rfl]
    simp only [leaf1] at e2
    have hlog : i.natAbs.log2 < 1920 := log2_1900 hd
    simp [df_bent, isiD, e1, e2, (u1.trans u2).take, (u1.trans u2).length, eqD_int, ders, biF, biStr, hlog, pures]
  | _ => cases hd
theorem cut_fromG {xs : List D} {i : Nat} : cutD xs (some (i : Int)) none = xs.drop i := by
  unfold cutD
  rw [HT.sIx_nat, HT.sIx_none]
  by_cases h : i ≤ xs.length
  · rw [Nat.min_eq_left h]; exact List.take_of_length_le (by simp)
  · rw [Nat.min_eq_right (by omega)]; simp; omega
theorem cut_mid {xs : List D} {i : Nat} : (cutD xs (some (i : Int)) (some ((i : Int) + 1))).length ≤ 1 := by
  unfold cutD
  rw [show ((i : Int) + 1) = ((i + 1 : Nat) : Int) by omega, HT.sIx_nat, HT.sIx_nat]
  simp
  omega
theorem mul2 {ys : List D} (h : ys.length ≤ 1000) : binD .Mult (.tup ys) (.int 2) = some (.tup (ys ++ ys)) := by
  by_cases h0 : ys = []
  · subst h0; rfl
  · have : binD .Mult (.tup ys) (.int 2) = if ys ≠ [] ∧ 2 ≤ (2 : Int) ∧ (2 : Int) ≤ 1000 ∧ ys.length ≤ 1000 then some (.tup (List.replicate (2 : Int).toNat ys).flatten) else if -(2 ^ 63) ≤ (2 : Int) ∧ (2 : Int) < 2 ^ 63 ∧ ((2 : Int) ≤ 1 ∨ ys = []) then some (.tup (List.replicate (2 : Int).toNat ys).flatten) else none := rfl
    rw [this, if_pos ⟨h0, by omega, by omega, h⟩]
    show some (D.tup (List.replicate 2 ys).flatten) = _
    simp [List.replicate]
theorem bent_tail (hr : T.lookup ("_law_roll" : Str) = some df_roll) (hs : T.lookup ("_law_some" : Str) = some df_some) (hb : T.lookup ("_law_bent" : Str) = some df_bent) {n : Nat} {xs : List D} (hl : xs.length ≤ 900) (hx : ∀ d ∈ xs, okD n d = true) (hS : Has S) :
    ∃ d' S', evB (callF T wf (k + 2)) wf (df_bent.body.drop 1) [some (.c 0), some (.p (.tup xs)), none, none] S = .ret (.p d') S' ∧ Up S S' ∧ okD (n + 1) d' = true := by
  obtain ⟨v, S1, v0, v1, u1, e1⟩ := rollB hr (wf := wf) (k := k + 1) (m := 5) (by omega) (by omega) hS
  obtain ⟨a, S2, a0, a1, u2, e2⟩ := rollB hr (wf := wf) (k := k + 1) (m := (xs.length : Int) + 1) (by omega) (by omega) (u1.has hS)
  obtain ⟨i, rfl⟩ : ∃ i : Nat, a = i := ⟨a.toNat, by omega⟩
  have l1 : (cutD xs none (some (i : Int))).length = i := by rw [cut_to (by omega), List.length_take]; omega
  have l2 : (cutD xs (some ((i : Int) + 1)) none).length = xs.length - (i + 1) := by
    rw [show ((i : Int) + 1) = ((i + 1 : Nat) : Int) by omega, cut_fromG, List.length_drop]
  have l3 := cut_mid (xs := xs) (i := i)
  have key : ∀ v : Int, 0 ≤ v → v < 5 → v = 0 ∨ v = 1 ∨ v = 2 ∨ v = 3 ∨ v = 4 := by intro v h1 h2; omega
  rcases key v v0 v1 with rfl | rfl | rfl | rfl | rfl
  · refine ⟨.lst xs, S2, ?_, u1.trans u2, okD_lstI (by omega) hx⟩
    simp [df_bent, isiD, e1, e2, ders, biF, biLen, biList, eqD_int, pures]
  · refine ⟨.tup (cutD xs none (some (i : Int)) ++ cutD xs (some ((i : Int) + 1)) none), S2, ?_, u1.trans u2, okD_tupI (by rw [List.length_append]; omega) fun d hd => ?_⟩
    · have f1 := binD_cat (xs := cutD xs none (some (i : Int))) (ys := cutD xs (some ((i : Int) + 1)) none) (size1000 (by omega))
      simp [df_bent, isiD, e1, e2, ders, biF, biLen, eqD_int, slD, f1]
    · rcases List.mem_append.mp hd with hd | hd
      · exact hx d (cut_mem hd)
      · exact hx d (cut_mem hd)
  · refine ⟨.tup ((cutD xs none (some (i : Int)) ++ (cutD xs (some (i : Int)) (some ((i : Int) + 1)) ++ cutD xs (some (i : Int)) (some ((i : Int) + 1)))) ++ cutD xs (some ((i : Int) + 1)) none), S2, ?_, u1.trans u2, okD_tupI (by simp only [List.length_append]; omega) fun d hd => ?_⟩
    · have f0 := mul2 (ys := cutD xs (some (i : Int)) (some ((i : Int) + 1))) (by omega)
      have f1 := binD_cat (xs := cutD xs none (some (i : Int))) (ys := cutD xs (some (i : Int)) (some ((i : Int) + 1)) ++ cutD xs (some (i : Int)) (some ((i : Int) + 1))) (size1000 (by simp only [List.length_append]; omega))
      have f2 := binD_cat (xs := cutD xs none (some (i : Int)) ++ (cutD xs (some (i : Int)) (some ((i : Int) + 1)) ++ cutD xs (some (i : Int)) (some ((i : Int) + 1)))) (ys := cutD xs (some ((i : Int) + 1)) none) (size1000 (by simp only [List.length_append]; omega))
      simp only [df_bent, List.drop_succ_cons, List.drop_zero]
      simp [isiD, e1, e2, ders, biF, biLen, eqD_int, slD, f0, f1]
      simp at f2
      simp [f2]
    · simp only [List.mem_append] at hd
      rcases hd with (hd | hd | hd) | hd <;> exact hx d (cut_mem hd)
  · refine ⟨.tup xs.reverse, S2, ?_, u1.trans u2, okD_tupI (by simp; omega) fun d hd => hx d (List.mem_reverse.mp hd)⟩
    simp [df_bent, isiD, e1, e2, ders, biF, biLen, eqD_int]
  · refine ⟨.non, S2, ?_, u1.trans u2, rfl⟩
    simp [df_bent, isiD, e1, e2, ders, biF, biLen, eqD_int]
theorem s_bent (hr : T.lookup ("_law_roll" : Str) = some df_roll) (hs : T.lookup ("_law_some" : Str) = some df_some) (hb : T.lookup ("_law_bent" : Str) = some df_bent) : ∀ (n : Nat) {d : D}, Bt n d → n ≤ 50 → ∀ {k : Nat} {S : Store}, Has S → ∃ d' S', callF T wf (k + n + 3) "_law_bent" [.c 0, .p d] S = .ok (.p d') S' ∧ Up S S' ∧ okD (n + 1) d' = true := by
  intro n
  induction n with
  | zero => intro d hd _ k S hS; exact bent_leaf hr hs hb hd hS
  | succ n ih => 
    intro d hd hn k S hS
    cases d with
    | non =>
      obtain ⟨d', S', h1, h2, h3⟩ := bent_leaf hr hs hb (wf := wf) (k := k + (n + 1)) (d := .non) trivial hS
      exact ⟨d', S', h1, h2, okD_le (by omega) h3⟩
    | int i =>
      obtain ⟨d', S', h1, h2, h3⟩ := bent_leaf hr hs hb (wf := wf) (k := k + (n + 1)) (d := .int i) hd hS
      exact ⟨d', S', h1, h2, okD_le (by omega) h3⟩
    | tup xs =>
      have hd : xs.length ≤ 900 ∧ ∀ d ∈ xs, Bt n d := hd
      obtain ⟨hl, hx⟩ := hd
      have hx1 : ∀ d ∈ xs, okD n d = true := fun d hd => (hx d hd).ok
      have hnil := eqD_nilT (n := n) (by omega) hx1
      rw [show k + (n + 1) + 3 = (k + n + 3) + 1 by omega, callF_succ hb rfl]
      have tail : ∀ S1, Up S S1 → ∃ d' S', evB (callF T wf (k + n + 3)) wf (df_bent.body.drop 1) [some (.c 0), some (.p (.tup xs)), none, none] S1 = .ret (.p d') S' ∧ Up S S' ∧ okD (n + 2) d' = true := fun S1 u => by
        obtain ⟨d', S', h1, h2, h3⟩ := bent_tail hr hs hb (wf := wf) (k := k + n + 1) hl hx1 (u.has hS)
        exact ⟨d', S', h1, u.trans h2, okD_up h3⟩
      by_cases h0 : xs = []
      · subst h0
        obtain ⟨d', S', h1, h2, h3⟩ := tail S (Up.refl hS)
        refine ⟨d', S', ?_, h2, h3⟩
        have st : evS (callF T wf (k + n + 3)) wf (df_bent.body.headD .pass) [some (.c 0), some (.p (.tup [])), none, none] S = .nx [some (.c 0), some (.p (.tup [])), none, none] S := by
          simp [df_bent, isiD, hnil]
        have := (congrArg (finishR false S.length) (seqE (ss := df_bent.body.drop 1) st)).trans (congrArg (finishR false S.length) h1)
        simp only [finishR_ret, h2.take] at this
        exact this
      · obtain ⟨v, S1, v0, v1, u1, e1⟩ := rollB hr (wf := wf) (k := k + n + 2) (m := 4) (by omega) (by omega) hS
        by_cases hv : 0 < v
        · have hp : 0 < xs.length := List.length_pos_iff.mpr h0
          obtain ⟨a, S2, a0, a1, u2, e2⟩ := rollB hr (wf := wf) (k := k + n + 2) (m := (xs.length : Int)) (by omega) (by omega) (u1.has hS)
          obtain ⟨i, rfl⟩ : ∃ i : Nat, a = i := ⟨a.toNat, by omega⟩
          have hi : i < xs.length := by omega
          obtain ⟨d', S3, e3, u3, hd'⟩ := ih (hx xs[i] (List.getElem_mem hi)) (by omega) (k := k) ((u1.trans u2).has hS)
          have l1 : (cutD xs none (some (i : Int))).length = i := by rw [cut_to (by omega), List.length_take]; omega
          have l2 : (cutD xs (some ((i : Int) + 1)) none).length = xs.length - (i + 1) := by
            rw [show ((i : Int) + 1) = ((i + 1 : Nat) : Int) by omega, cut_fromG, List.length_drop]
          have hat := atI_nat hi
          have f1 := binD_cat (xs := cutD xs none (some (i : Int))) (ys := [d']) (size1000 (by simp; omega))
          have f2 := binD_cat (xs := cutD xs none (some (i : Int)) ++ [d']) (ys := cutD xs (some ((i : Int) + 1)) none) (size1000 (by simp; omega))
          refine ⟨.tup (cutD xs none (some (i : Int)) ++ [d'] ++ cutD xs (some ((i : Int) + 1)) none), S3, ?_, (u1.trans u2).trans u3, okD_tupI (by simp; omega) fun d hd => ?_⟩
          · have st : evS (callF T wf (k + n + 3)) wf (df_bent.body.headD .pass) [some (.c 0), some (.p (.tup xs)), none, none] S = .ret (.p (.tup (cutD xs none (some (i : Int)) ++ [d'] ++ cutD xs (some ((i : Int) + 1)) none))) S3 := by
              simp [df_bent, isiD, hnil, h0, e1, hv, e2, ders, biF, biLen, slD, hat, e3, f1, pures]
              simp at f2
              simp [f2]
            have := congrArg (finishR false S.length) (seqR (ss := df_bent.body.drop 1) st)
            simp only [finishR_ret, ((u1.trans u2).trans u3).take] at this
            exact this
          · simp only [List.mem_append, List.mem_singleton] at hd
            rcases hd with (hd | rfl) | hd
            · exact okD_up (hx1 d (cut_mem hd))
            · exact hd'
            · exact okD_up (hx1 d (cut_mem hd))
        · obtain ⟨d', S', h1, h2, h3⟩ := tail S1 u1
          refine ⟨d', S', ?_, h2, h3⟩
          have st : evS (callF T wf (k + n + 3)) wf (df_bent.body.headD .pass) [some (.c 0), some (.p (.tup xs)), none, none] S = .nx [some (.c 0), some (.p (.tup xs)), none, none] S1 := by
            simp [df_bent, isiD, hnil, h0, e1, hv]
          have := (congrArg (finishR false S.length) (seqE (ss := df_bent.body.drop 1) st)).trans (congrArg (finishR false S.length) h1)
          simp only [finishR_ret, h2.take] at this
          exact this
    | _ => cases hd
end
/-- a comprehension whose turns change the store, with a relation of what is walked and what is told -/
theorem lc_runR {call : CallF} {elt : DE} {tg : DT} {k : IK} {args ifs : List DE} {own : List Nat} {ρ : Loc} {S S1 : Store} {vs : List Sv} {ds : List D} {P : D → D → Prop} (ha : evL call args ρ S = .ok vs S1) (hi : itemsOf k vs S1 = some (ds, []))
    (h : ∀ d ∈ ds, ∀ S', VU S1 S' → ∃ y S'', lcTurn call elt tg ifs own ρ d S' = .ok (some y) S'' ∧ VU S' S'' ∧ P d y) (hl : ds.length ≤ sizeLine) :
    ∃ ys S', evE call (.lc elt tg k args ifs own) ρ S = .ok (.p (.lst ys)) S' ∧ VU S1 S' ∧ ys.length = ds.length ∧ ∀ p ∈ ds.zip ys, P p.1 p.2 := by
  obtain ⟨ys, S', e, v, l, p⟩ := lcL_run (turn := lcTurn call elt tg ifs own ρ) (P := P) (V := VU) VU.refl (fun _ _ _ => VU.trans) (S0 := S1) (ds := ds) (S := S1) (VU.refl _) h
  refine ⟨ys, S', ?_, v, l, p⟩
  rw [evE_lc]
  unfold evI
  rw [ha]
  simp only [R.bind_ok, hi, R.of_some]
  rw [e]
  simp only [R.bind_ok]
  rw [if_pos (by rw [l]; exact hl)]
end DV

set_option Elab.async false
set_option linter.all false
set_option maxRecDepth 100000
set_option maxHeartbeats 4000000
namespace Lk34
open PySem PySem.Spec PyProof.Rows DV
def topS (i : Nat) : Stmt := PySem.Challenge.pw_plotsagreed_k34_whole_areas.main.body.getD i (.Pass ⟨0, 0, 0, 0⟩)
def bis : List Str := ["len", "abs", "min", "sum", "any", "all", "int", "tuple", "list", "range", "zip", "enumerate", "isinstance", "bool", "str", "dict"]
def gcs : List Str := []
def cs : List (Str × D) := [("SIZE", (.int 30)), ("AREA", (.int 1000)), ("TURNS", (.int 60))]
def d_is_whole : Dn := ⟨topS 5, ["value", "low", "high"], ["value", "low", "high"], [], false, [
  .ret (.and (.isi (.var 0) .int) (.and (.not (.isi (.var 0) .bool)) (.chain .LtE .LtE (.var 1) (.var 0) (.var 2))))]⟩
def d_need_whole : Dn := ⟨topS 6, ["value", "low", "high"], ["value", "low", "high"], [], false, [
  .ife (.not (.call "is_whole" false [(.var 0), (.var 1), (.var 2)])) [.never] []]⟩
def d_is_tuple_of : Dn := ⟨topS 7, ["value", "low", "high"], ["value", "low", "high"], [], false, [
  .ret (.and (.isi (.var 0) .tuple) (.chain .LtE .LtE (.var 1) (.bi .len [(.var 0)]) (.var 2)))]⟩
def d_is_pair : Dn := ⟨topS 10, ["value", "w", "h"], ["value", "w", "h"], [], false, [
  .ret (.and (.call "is_tuple_of" false [(.var 0), (.con (.int 2)), (.con (.int 2))]) (.and (.call "is_whole" false [(.ix (.var 0) (.con (.int 0))), (.con (.int 0)), (.var 1)]) (.call "is_whole" false [(.ix (.var 0) (.con (.int 1))), (.con (.int 0)), (.var 2)])))]⟩
def d_next_corners : Dn := ⟨topS 11, ["corner"], ["corner"], [], false, [
  .ret (.lst [(.tup [(.ix (.var 0) (.con (.int 0))), (.bin .Add (.ix (.var 0) (.con (.int 1))) (.con (.int 1)))]), (.tup [(.bin .Add (.ix (.var 0) (.con (.int 0))) (.con (.int 1))), (.ix (.var 0) (.con (.int 1)))])])]⟩
def d_fits_way : Dn := ⟨topS 12, ["grid", "start", "goal", "value", "shut", ".0", "one", "corner", "other"], ["grid", "start", "goal", "value"], [], false, [
  .ife (.or (.not (.call "is_tuple_of" false [(.var 3), (.con (.int 1)), (.bin .Add (.bin .Add (.ix (.var 0) (.con (.int 0))) (.ix (.var 0) (.con (.int 1)))) (.con (.int 1)))])) (.not (.bi .all [(.lc (.call "is_pair" false [(.var 6), (.ix (.var 0) (.con (.int 0))), (.ix (.var 0) (.con (.int 1)))]) (.name 6) .seq [(.var 3)] [] [5, 6])]))) [.ret (.con (.bl false))] [],
  .ife (.or (.cmp .NotEq (.ix (.var 3) (.con (.int 0))) (.var 1)) (.cmp .NotEq (.ix (.var 3) (.neg (.con (.int 1)))) (.var 2))) [.ret (.con (.bl false))] [],
  .asg (.name 4) (.bi .dict [(.lc (.tup [(.var 7), (.con (.bl true))]) (.name 7) .seq [(.ix (.var 0) (.con (.int 2)))] [] [5, 7])]),
  .ife (.bi .any [(.lc (.cmp .In (.var 7) (.var 4)) (.name 7) .seq [(.var 3)] [] [5, 7])]) [.ret (.con (.bl false))] [],
  .ret (.bi .all [(.lc (.cmp .In (.var 8) (.call "next_corners" false [(.var 6)])) (.tup [(.name 6), (.name 8)]) .zip [(.var 3), (.sl (.var 3) (some (.con (.int 1))) none)] [] [5, 6, 8])])]⟩
def d_need_way : Dn := ⟨topS 16, ["way"], ["way"], [], false, [
  .ife (.or (.not (.isi (.var 0) .tuple)) (.or (.cmp .Eq (.var 0) (.tup [])) (.not (.call "fits_way" false [(.tup [(.con (.int 30)), (.con (.int 30)), (.tup [])]), (.tup [(.con (.int 0)), (.con (.int 0))]), (.ix (.var 0) (.neg (.con (.int 1)))), (.var 0)])))) [.never] []]⟩
def d_area_in : Dn := ⟨topS 17, ["way", ".0", "one", "other"], ["way"], [], false, [
  .ret (.bi .sum [(.lc (.ix (.var 2) (.con (.int 1))) (.tup [(.name 2), (.name 3)]) .zip [(.var 0), (.sl (.var 0) (some (.con (.int 1))) none)] [(.cmp .Gt (.ix (.var 3) (.con (.int 0))) (.ix (.var 2) (.con (.int 0))))] [1, 2, 3])])]⟩
def d_areas_of : Dn := ⟨topS 18, ["w", "h", "found", "column", "area"], ["w", "h"], ["found"], false, [
  .new 2 (.bin .Add (.lst [(.con (.int 1))]) (.bin .Mult (.lst [(.con (.int 0))]) (.bin .Mult (.var 0) (.var 1)))),
  .for (.name 3) .rng [(.con (.int 1)), (.bin .Add (.var 0) (.con (.int 1)))] [.for (.name 4) .rng [(.bin .Mult (.var 0) (.var 1)), (.bin .Sub (.bin .Add (.var 1) (.var 3)) (.con (.int 1))), (.neg (.con (.int 1)))] [.setix (.var 2) (.var 4) (.bin .Sub (.ix (.var 2) (.var 4)) (.ix (.var 2) (.bin .Sub (.bin .Sub (.var 4) (.var 1)) (.var 3))))], .for (.name 4) .rng [(.var 3), (.bin .Add (.bin .Mult (.var 0) (.var 1)) (.con (.int 1)))] [.setix (.var 2) (.var 4) (.bin .Add (.ix (.var 2) (.var 4)) (.ix (.var 2) (.bin .Sub (.var 4) (.var 3))))]],
  .ret (.var 2)]⟩
def d_area_of : Dn := ⟨topS 19, ["way"], ["way"], [], false, [
  .expr (.call "need_way" false [(.var 0)]),
  .ret (.call "area_in" false [(.var 0)])]⟩
def d_count_turns_of : Dn := ⟨topS 20, ["way", "steps", ".0", "one", "other"], ["way"], [], false, [
  .expr (.call "need_way" false [(.var 0)]),
  .asg (.name 1) (.lc (.cmp .Gt (.ix (.var 4) (.con (.int 0))) (.ix (.var 3) (.con (.int 0)))) (.tup [(.name 3), (.name 4)]) .zip [(.var 0), (.sl (.var 0) (some (.con (.int 1))) none)] [] [2, 3, 4]),
  .ret (.bi .len [(.lc (.con (.int 1)) (.tup [(.name 3), (.name 4)]) .zip [(.var 1), (.sl (.var 1) (some (.con (.int 1))) none)] [(.cmp .NotEq (.var 3) (.var 4))] [2, 3, 4])])]⟩
def d_need_sides : Dn := ⟨topS 21, ["w", "h"], ["w", "h"], [], false, [
  .expr (.call "need_whole" false [(.var 0), (.con (.int 0)), (.con (.int 30))]),
  .expr (.call "need_whole" false [(.var 1), (.con (.int 0)), (.con (.int 30))])]⟩
def d_count_area : Dn := ⟨topS 22, ["w", "h", "area"], ["w", "h", "area"], [], false, [
  .expr (.call "need_sides" false [(.var 0), (.var 1)]),
  .expr (.call "need_whole" false [(.var 2), (.con (.int 0)), (.con (.int 1000))]),
  .ret (.ife (.cmp .LtE (.var 2) (.bin .Mult (.var 0) (.var 1))) (.ix (.call "areas_of" false [(.var 0), (.var 1)]) (.var 2)) (.con (.int 0)))]⟩
def d_way_of_area : Dn := ⟨topS 23, ["w", "h", "area", "heights", "column", "found", "height", ".0", "y"], ["w", "h", "area"], ["heights"], false, [
  .expr (.call "need_sides" false [(.var 0), (.var 1)]),
  .expr (.call "need_whole" false [(.var 2), (.con (.int 0)), (.con (.int 1000))]),
  .ife (.cmp .Gt (.var 2) (.bin .Mult (.var 0) (.var 1))) [.ret (.con .non)] [],
  .new 3 (.bin .Mult (.lst [(.con (.int 0))]) (.var 0)),
  .for (.name 4) .rng [(.bin .Sub (.var 0) (.con (.int 1))), (.neg (.con (.int 1))), (.neg (.con (.int 1)))] [.setix (.var 3) (.var 4) (.bi .min [(.var 1), (.var 2)]), .asg (.name 2) (.bin .Sub (.var 2) (.ix (.var 3) (.var 4)))],
  .asg (.name 5) (.lst [(.tup [(.con (.int 0)), (.con (.int 0))])]),
  .for (.tup [(.name 4), (.name 6)]) .enum [(.var 3)] [.asg (.name 5) (.bin .Add (.bin .Add (.var 5) (.lc (.tup [(.var 4), (.var 8)]) (.name 8) .rng [(.bin .Add (.ix (.ix (.var 5) (.neg (.con (.int 1)))) (.con (.int 1))) (.con (.int 1))), (.bin .Add (.var 6) (.con (.int 1)))] [] [7, 8])) (.lst [(.tup [(.bin .Add (.var 4) (.con (.int 1))), (.var 6)])]))],
  .ret (.bi .tuple [(.bin .Add (.var 5) (.lc (.tup [(.var 0), (.var 8)]) (.name 8) .rng [(.bin .Add (.ix (.ix (.var 5) (.neg (.con (.int 1)))) (.con (.int 1))) (.con (.int 1))), (.bin .Add (.var 1) (.con (.int 1)))] [] [7, 8]))])]⟩
def d_chosen : Dn := ⟨topS 24, ["many", "some", "found", "at"], ["many", "some"], [], false, [
  .asg (.name 2) (.ife (.chain .LtE .LtE (.con (.int 0)) (.var 1) (.var 0)) (.con (.int 1)) (.con (.int 0))),
  .for (.name 3) .rng [(.ife (.var 2) (.var 1) (.con (.int 0)))] [.asg (.name 2) (.bin .FloorDiv (.bin .Mult (.var 2) (.bin .Sub (.var 0) (.var 3))) (.bin .Add (.var 3) (.con (.int 1))))],
  .ret (.var 2)]⟩
def d_count_turns : Dn := ⟨topS 25, ["w", "h", "turns", "more", "less"], ["w", "h", "turns"], [], false, [
  .expr (.call "need_sides" false [(.var 0), (.var 1)]),
  .expr (.call "need_whole" false [(.var 2), (.con (.int 0)), (.con (.int 60))]),
  .ife (.or (.cmp .Eq (.var 0) (.con (.int 0))) (.cmp .Eq (.var 1) (.con (.int 0)))) [.ret (.ife (.cmp .Eq (.var 2) (.con (.int 0))) (.con (.int 1)) (.con (.int 0)))] [],
  .par [3, 4] [(.bin .FloorDiv (.bin .Add (.var 2) (.con (.int 1))) (.con (.int 2))), (.bin .FloorDiv (.var 2) (.con (.int 2)))],
  .ret (.bin .Add (.bin .Mult (.call "chosen" false [(.bin .Sub (.var 0) (.con (.int 1))), (.var 4)]) (.call "chosen" false [(.bin .Sub (.var 1) (.con (.int 1))), (.bin .Sub (.var 3) (.con (.int 1)))])) (.bin .Mult (.call "chosen" false [(.bin .Sub (.var 1) (.con (.int 1))), (.var 4)]) (.call "chosen" false [(.bin .Sub (.var 0) (.con (.int 1))), (.bin .Sub (.var 3) (.con (.int 1)))])))]⟩
def d__law_cup : Dn := ⟨topS 27, ["script", "cell"], ["script"], [], true, [
  .asg (.name 1) (.bi .abs [(.ix (.bin .Add (.bi .list [(.var 0)]) (.lst [(.con (.int 0))])) (.con (.int 0)))]),
  .retF (.lst [(.ife (.cmp .GtE (.var 1) (.bin .Pow (.con (.int 10)) (.con (.int 18)))) (.bin .FloorDiv (.var 1) (.con (.int 109))) (.con (.int 0))), (.bin .Add (.bin .Mod (.bi .int [(.bin .Add (.bin .Mult (.var 1) (.con (.int 359))) (.con (.int 5209)))]) (.con (.int 1994129363))) (.con (.int 223)))])]⟩
def d__law_roll : Dn := ⟨topS 28, ["cup", "many", "found", "deep"], ["cup", "many"], ["cup"], false, [
  .ife (.cmp .Gt (.ix (.var 0) (.con (.int 0))) (.con (.int 0))) [.asg (.name 2) (.bin .Mod (.bi .int [(.ix (.var 0) (.con (.int 0)))]) (.var 1)), .setix (.var 0) (.con (.int 0)) (.bin .FloorDiv (.ix (.var 0) (.con (.int 0))) (.var 1)), .ret (.var 2)] [],
  .setix (.var 0) (.con (.int 1)) (.bin .Mod (.bi .int [(.bin .Add (.bin .Mult (.ix (.var 0) (.con (.int 1))) (.con (.int 30103))) (.con (.int 8923)))]) (.con (.int 2147483543))),
  .asg (.name 3) (.bin .Mod (.bi .int [(.bin .Mult (.ix (.var 0) (.con (.int 1))) (.bin .Add (.ix (.var 0) (.con (.int 1))) (.con (.int 283))))]) (.con (.int 2147483587))),
  .ret (.bin .Mod (.bi .int [(.bin .FloorDiv (.var 3) (.con (.int 881)))]) (.var 1))]⟩
def d__law_some : Dn := ⟨topS 29, ["cup", "things"], ["cup", "things"], ["cup"], false, [
  .ret (.ix (.var 1) (.call "_law_roll" false [(.var 0), (.bi .len [(.var 1)])]))]⟩
def d__law_sort : Dn := ⟨topS 30, ["value"], ["value"], [], false, [
  .ife (.or (.cmp .Is (.var 0) (.con .non)) (.isi (.var 0) .bool)) [.ret (.ife (.cmp .Is (.var 0) (.con .non)) (.con (.int 0)) (.con (.int 1)))] [],
  .ife (.or (.isi (.var 0) .int) (.isi (.var 0) .str)) [.ret (.ife (.isi (.var 0) .int) (.con (.int 2)) (.con (.int 3)))] [],
  .ret (.ife (.isi (.var 0) .tuple) (.con (.int 4)) (.ife (.isi (.var 0) .list) (.con (.int 5)) (.con (.int 6))))]⟩
def d__law_like : Dn := ⟨topS 31, ["one", "other", "sort", ".0", "first", "second"], ["one", "other"], [], false, [
  .asg (.name 2) (.call "_law_sort" false [(.var 1)]),
  .ife (.or (.cmp .NotEq (.call "_law_sort" false [(.var 0)]) (.var 2)) (.cmp .Eq (.var 2) (.con (.int 6)))) [.ret (.con (.bl false))] [],
  .ife (.cmp .In (.var 2) (.tup [(.con (.int 4)), (.con (.int 5))])) [.ret (.and (.cmp .Eq (.bi .len [(.var 0)]) (.bi .len [(.var 1)])) (.cmp .Eq (.lc (.con (.int 1)) (.tup [(.name 4), (.name 5)]) .zip [(.var 0), (.var 1)] [(.not (.call "_law_like" false [(.var 4), (.var 5)]))] [3, 4, 5]) (.lst [])))] [],
  .ret (.cmp .Eq (.var 0) (.var 1))]⟩
def d__law_is_number : Dn := ⟨topS 32, ["value", "low", "high"], ["value", "low", "high"], [], false, [
  .ret (.and (.cmp .Eq (.call "_law_sort" false [(.var 0)]) (.con (.int 2))) (.chain .LtE .LtE (.var 1) (.var 0) (.var 2)))]⟩
def d__law_is_corner : Dn := ⟨topS 33, ["value", "w", "h"], ["value", "w", "h"], [], false, [
  .ret (.and (.isi (.var 0) .tuple) (.and (.cmp .Eq (.bi .len [(.var 0)]) (.con (.int 2))) (.and (.call "_law_is_number" false [(.ix (.var 0) (.con (.int 0))), (.con (.int 0)), (.var 1)]) (.call "_law_is_number" false [(.ix (.var 0) (.con (.int 1))), (.con (.int 0)), (.var 2)]))))]⟩
def d__law_ways : Dn := ⟨topS 34, ["grid", "start", "goal", "found", "turn", "longer", "way", "x", "y", ".0", "one"], ["grid", "start", "goal"], ["longer"], false, [
  .asg (.name 3) (.ife (.cmp .NotIn (.var 1) (.ix (.var 0) (.con (.int 2)))) (.lst [(.tup [(.var 1)])]) (.lst [])),
  .for (.name 4) .rng [(.bin .Add (.ix (.var 0) (.con (.int 0))) (.ix (.var 0) (.con (.int 1))))] [.new 5 (.lst []), .for (.name 6) .seq [(.var 3)] [.asg (.tup [(.name 7), (.name 8)]) (.ix (.var 6) (.neg (.con (.int 1)))), .ife (.cmp .Eq (.ix (.var 6) (.neg (.con (.int 1)))) (.var 2)) [.app (.var 5) (.var 6)] [.new 5 (.bin .Add (.var 5) (.lc (.bin .Add (.var 6) (.tup [(.var 10)])) (.name 10) .seq [(.tup [(.tup [(.var 7), (.bin .Add (.var 8) (.con (.int 1)))]), (.tup [(.bin .Add (.var 7) (.con (.int 1))), (.var 8)])])] [(.and (.cmp .LtE (.ix (.var 10) (.con (.int 0))) (.ix (.var 2) (.con (.int 0)))) (.and (.cmp .LtE (.ix (.var 10) (.con (.int 1))) (.ix (.var 2) (.con (.int 1)))) (.cmp .NotIn (.var 10) (.ix (.var 0) (.con (.int 2))))))] [9, 10]))]], .asg (.name 3) (.var 5)],
  .ret (.lc (.var 6) (.name 6) .seq [(.var 3)] [(.cmp .Eq (.ix (.var 6) (.neg (.con (.int 1)))) (.var 2))] [9, 6])]⟩
def d__law_is_way : Dn := ⟨topS 35, ["grid", "start", "goal", "value", "steps", ".0", "one", "other", "step"], ["grid", "start", "goal", "value"], [], false, [
  .ife (.or (.not (.isi (.var 3) .tuple)) (.or (.cmp .Eq (.var 3) (.tup [])) (.cmp .NotEq (.lc (.var 6) (.name 6) .seq [(.var 3)] [(.or (.not (.call "_law_is_corner" false [(.var 6), (.ix (.var 0) (.con (.int 0))), (.ix (.var 0) (.con (.int 1)))])) (.cmp .In (.var 6) (.ix (.var 0) (.con (.int 2)))))] [5, 6]) (.lst [])))) [.ret (.con (.bl false))] [],
  .asg (.name 4) (.lc (.tup [(.bin .Sub (.ix (.var 7) (.con (.int 0))) (.ix (.var 6) (.con (.int 0)))), (.bin .Sub (.ix (.var 7) (.con (.int 1))) (.ix (.var 6) (.con (.int 1))))]) (.tup [(.name 6), (.name 7)]) .zip [(.var 3), (.sl (.var 3) (some (.con (.int 1))) none)] [] [5, 6, 7]),
  .ret (.and (.cmp .Eq (.ix (.var 3) (.con (.int 0))) (.var 1)) (.and (.cmp .Eq (.ix (.var 3) (.neg (.con (.int 1)))) (.var 2)) (.cmp .Eq (.lc (.var 8) (.name 8) .seq [(.var 4)] [(.cmp .NotIn (.var 8) (.tup [(.tup [(.con (.int 0)), (.con (.int 1))]), (.tup [(.con (.int 1)), (.con (.int 0))])]))] [5, 8]) (.lst []))))]⟩
def d__law_random_way : Dn := ⟨topS 36, ["cup", "start", "goal", "found", "turn", "x", "y", "right"], ["cup", "start", "goal"], ["cup"], false, [
  .asg (.name 3) (.tup [(.var 1)]),
  .for (.name 4) .rng [(.bin .Sub (.bin .Add (.bin .Sub (.ix (.var 2) (.con (.int 0))) (.ix (.var 1) (.con (.int 0)))) (.ix (.var 2) (.con (.int 1)))) (.ix (.var 1) (.con (.int 1))))] [.asg (.tup [(.name 5), (.name 6)]) (.ix (.var 3) (.neg (.con (.int 1)))), .asg (.name 7) (.or (.cmp .Eq (.var 6) (.ix (.var 2) (.con (.int 1)))) (.and (.cmp .Lt (.var 5) (.ix (.var 2) (.con (.int 0)))) (.cmp .Eq (.call "_law_roll" false [(.var 0), (.con (.int 2))]) (.con (.int 0))))), .asg (.name 3) (.bin .Add (.var 3) (.tup [(.ife (.var 7) (.tup [(.bin .Add (.var 5) (.con (.int 1))), (.var 6)]) (.tup [(.var 5), (.bin .Add (.var 6) (.con (.int 1)))]))]))],
  .ret (.var 3)]⟩
def d__law_chosen : Dn := ⟨topS 37, ["many", "some", "row", "turn", ".0", "one", "other"], ["many", "some"], [], false, [
  .asg (.name 2) (.lst [(.con (.int 1))]),
  .for (.name 3) .rng [(.var 0)] [.asg (.name 2) (.lc (.bin .Add (.var 5) (.var 6)) (.tup [(.name 5), (.name 6)]) .zip [(.bin .Add (.var 2) (.lst [(.con (.int 0))])), (.bin .Add (.lst [(.con (.int 0))]) (.var 2))] [] [4, 5, 6])],
  .ret (.ife (.chain .LtE .LtE (.con (.int 0)) (.var 1) (.var 0)) (.ix (.var 2) (.var 1)) (.con (.int 0)))]⟩
def d__law_area : Dn := ⟨topS 38, ["way", "found", "one", "other"], ["way"], [], false, [
  .asg (.name 1) (.con (.int 0)),
  .for (.tup [(.name 2), (.name 3)]) .zip [(.var 0), (.sl (.var 0) (some (.con (.int 1))) none)] [.asg (.name 1) (.bin .Add (.var 1) (.ife (.cmp .Eq (.ix (.var 3) (.con (.int 1))) (.ix (.var 2) (.con (.int 1)))) (.ix (.var 2) (.con (.int 1))) (.con (.int 0))))],
  .ret (.var 1)]⟩
def d__law_turns : Dn := ⟨topS 39, ["way", ".0", "one", "other"], ["way"], [], false, [
  .ret (.bi .len [(.lc (.con (.int 1)) (.tup [(.name 2), (.name 3)]) .zip [(.var 0), (.sl (.var 0) (some (.con (.int 2))) none)] [(.and (.cmp .NotEq (.ix (.var 2) (.con (.int 0))) (.ix (.var 3) (.con (.int 0)))) (.cmp .NotEq (.ix (.var 2) (.con (.int 1))) (.ix (.var 3) (.con (.int 1)))))] [1, 2, 3])])]⟩
def d__law_product : Dn := ⟨topS 40, ["w", "h", "most", "found", "step", "at", ".0"], ["w", "h"], ["found"], false, [
  .asg (.name 2) (.bin .Mult (.var 0) (.var 1)),
  .new 3 (.bin .Add (.lst [(.con (.int 1))]) (.bin .Mult (.lst [(.con (.int 0))]) (.var 2))),
  .for (.name 4) .rng [(.con (.int 1)), (.bin .Add (.var 0) (.con (.int 1)))] [.new 3 (.lc (.bin .Sub (.ix (.var 3) (.var 5)) (.ife (.cmp .GtE (.var 5) (.bin .Add (.var 1) (.var 4))) (.ix (.var 3) (.bin .Sub (.bin .Sub (.var 5) (.var 1)) (.var 4))) (.con (.int 0)))) (.name 5) .rng [(.bin .Add (.var 2) (.con (.int 1)))] [] [6, 5]), .for (.name 5) .rng [(.var 4), (.bin .Add (.var 2) (.con (.int 1)))] [.setix (.var 3) (.var 5) (.bin .Add (.ix (.var 3) (.var 5)) (.ix (.var 3) (.bin .Sub (.var 5) (.var 4))))]],
  .ret (.var 3)]⟩
def d__law_right : Dn := ⟨topS 41, ["cup", "w", "h", "ways", "way", "areas", "turns", "k", "told", ".0"], ["cup", "w", "h"], ["cup"], false, [
  .asg (.name 3) (.call "_law_ways" false [(.tup [(.var 1), (.var 2), (.tup [])]), (.tup [(.con (.int 0)), (.con (.int 0))]), (.tup [(.var 1), (.var 2)])]),
  .asg (.tup [(.name 5), (.name 6)]) (.tup [(.lc (.call "_law_area" false [(.var 4)]) (.name 4) .seq [(.var 3)] [] [9, 4]), (.lc (.call "_law_turns" false [(.var 4)]) (.name 4) .seq [(.var 3)] [] [9, 4])]),
  .asg (.name 4) (.call "_law_some" false [(.var 0), (.var 3)]),
  .ife (.not (.call "_law_like" false [(.lst [(.call "area_of" false [(.var 4)]), (.call "count_turns_of" false [(.var 4)])]), (.lst [(.call "_law_area" false [(.var 4)]), (.call "_law_turns" false [(.var 4)])])])) [.ret (.con (.bl false))] [],
  .ife (.not (.call "_law_like" false [(.lc (.call "count_area" false [(.var 1), (.var 2), (.var 7)]) (.name 7) .rng [(.bin .Add (.bin .Mult (.var 1) (.var 2)) (.con (.int 2)))] [] [9, 7]), (.lc (.cnt (.var 5) (.var 7)) (.name 7) .rng [(.bin .Add (.bin .Mult (.var 1) (.var 2)) (.con (.int 2)))] [] [9, 7])])) [.ret (.con (.bl false))] [],
  .ife (.not (.call "_law_like" false [(.lc (.call "count_turns" false [(.var 1), (.var 2), (.var 7)]) (.name 7) .rng [(.bin .Add (.bin .Add (.var 1) (.var 2)) (.con (.int 2)))] [] [9, 7]), (.lc (.cnt (.var 6) (.var 7)) (.name 7) .rng [(.bin .Add (.bin .Add (.var 1) (.var 2)) (.con (.int 2)))] [] [9, 7])])) [.ret (.con (.bl false))] [],
  .for (.name 7) .seq [(.tup [(.con (.int 0)), (.bin .Mult (.var 1) (.var 2)), (.bin .Add (.bin .Mult (.var 1) (.var 2)) (.con (.int 1))), (.call "_law_roll" false [(.var 0), (.bin .Add (.bin .Mult (.var 1) (.var 2)) (.con (.int 1)))])])] [.asg (.name 8) (.call "way_of_area" false [(.var 1), (.var 2), (.var 7)]), .ife (.or (.cmp .NotEq (.cmp .Is (.var 8) (.con .non)) (.cmp .Gt (.var 7) (.bin .Mult (.var 1) (.var 2)))) (.and (.cmp .IsNot (.var 8) (.con .non)) (.or (.not (.call "_law_is_way" false [(.tup [(.var 1), (.var 2), (.tup [])]), (.tup [(.con (.int 0)), (.con (.int 0))]), (.tup [(.var 1), (.var 2)]), (.var 8)])) (.cmp .NotEq (.call "_law_area" false [(.var 8)]) (.var 7))))) [.ret (.con (.bl false))] []],
  .ret (.con (.bl true))]⟩
def d__law_great_right : Dn := ⟨topS 42, ["cup", "w", "h", "k", "way", "counts", "told", "about", "turns", "more", "less", "due", ".0", "x", "y"], ["cup"], ["cup"], false, [
  .par [1, 2] [(.bin .Add (.con (.int 1)) (.call "_law_roll" false [(.var 0), (.con (.int 30))])), (.bin .Add (.con (.int 1)) (.call "_law_roll" false [(.var 0), (.con (.int 30))]))],
  .par [3, 4] [(.call "_law_roll" false [(.var 0), (.bin .Add (.bin .Mult (.var 1) (.var 2)) (.con (.int 1)))]), (.call "_law_random_way" false [(.var 0), (.tup [(.con (.int 0)), (.con (.int 0))]), (.tup [(.var 1), (.var 2)])])],
  .asg (.name 5) (.call "_law_product" false [(.var 1), (.var 2)]),
  .asg (.name 6) (.lst [(.call "count_area" false [(.var 1), (.var 2), (.var 3)]), (.call "count_area" false [(.var 1), (.var 2), (.bin .Sub (.bin .Mult (.var 1) (.var 2)) (.var 3))]), (.call "count_area" false [(.var 2), (.var 1), (.var 3)]), (.call "count_area" false [(.var 1), (.var 2), (.bin .Mult (.var 1) (.var 2))]), (.call "count_area" false [(.var 1), (.var 2), (.bin .Add (.bin .Mult (.var 1) (.var 2)) (.con (.int 1)))]), (.call "area_of" false [(.var 4)]), (.call "count_turns_of" false [(.var 4)])]),
  .ife (.or (.not (.call "_law_like" false [(.var 6), (.bin .Add (.bin .Mult (.lst [(.ix (.var 5) (.var 3))]) (.con (.int 3))) (.lst [(.con (.int 1)), (.con (.int 0)), (.call "_law_area" false [(.var 4)]), (.call "_law_turns" false [(.var 4)])]))])) (.cmp .NotEq (.bi .sum [(.var 5)]) (.call "_law_chosen" false [(.bin .Add (.var 1) (.var 2)), (.var 2)]))) [.ret (.con (.bl false))] [],
  .asg (.name 7) (.bi .tuple [(.lc (.tup [(.var 14), (.var 13)]) (.tup [(.name 13), (.name 14)]) .seq [(.var 4)] [] [12, 13, 14])]),
  .ife (.not (.call "_law_like" false [(.lst [(.call "area_of" false [(.var 7)]), (.call "count_turns_of" false [(.var 7)])]), (.lst [(.bin .Sub (.bin .Mult (.var 1) (.var 2)) (.call "_law_area" false [(.var 4)])), (.call "_law_turns" false [(.var 4)])])])) [.ret (.con (.bl false))] [],
  .asg (.name 8) (.bin .Add (.con (.int 1)) (.call "_law_roll" false [(.var 0), (.con (.int 59))])),
  .par [9, 10] [(.bin .FloorDiv (.bi .int [(.bin .Add (.var 8) (.con (.int 1)))]) (.con (.int 2))), (.bin .FloorDiv (.bi .int [(.var 8)]) (.con (.int 2)))],
  .asg (.name 11) (.bin .Add (.bin .Mult (.call "_law_chosen" false [(.bin .Sub (.var 1) (.con (.int 1))), (.var 10)]) (.call "_law_chosen" false [(.bin .Sub (.var 2) (.con (.int 1))), (.bin .Sub (.var 9) (.con (.int 1)))])) (.bin .Mult (.call "_law_chosen" false [(.bin .Sub (.var 2) (.con (.int 1))), (.var 10)]) (.call "_law_chosen" false [(.bin .Sub (.var 1) (.con (.int 1))), (.bin .Sub (.var 9) (.con (.int 1)))]))),
  .asg (.name 6) (.call "way_of_area" false [(.var 1), (.var 2), (.var 3)]),
  .ife (.not (.call "_law_like" false [(.lst [(.call "count_turns" false [(.var 1), (.var 2), (.var 8)]), (.call "count_turns" false [(.var 1), (.var 2), (.con (.int 0))]), (.call "count_turns" false [(.var 1), (.con (.int 0)), (.con (.int 0))]), (.call "count_turns" false [(.con (.int 0)), (.var 2), (.con (.int 1))])]), (.lst [(.var 11), (.con (.int 0)), (.con (.int 1)), (.con (.int 0))])])) [.ret (.con (.bl false))] [],
  .ret (.and (.call "_law_is_way" false [(.tup [(.var 1), (.var 2), (.tup [])]), (.tup [(.con (.int 0)), (.con (.int 0))]), (.tup [(.var 1), (.var 2)]), (.var 6)]) (.and (.cmp .Eq (.call "_law_area" false [(.var 6)]) (.var 3)) (.cmp .Eq (.call "area_of" false [(.var 6)]) (.var 3))))]⟩
def d__law_written_right : Dn := ⟨topS 43, ["told", "due", ".0", "k"], [], [], false, [
  .asg (.name 0) (.lst [(.call "area_of" false [(.tup [(.tup [(.con (.int 0)), (.con (.int 0))]), (.tup [(.con (.int 1)), (.con (.int 0))]), (.tup [(.con (.int 1)), (.con (.int 1))]), (.tup [(.con (.int 2)), (.con (.int 1))])])]), (.lc (.call "count_area" false [(.con (.int 2)), (.con (.int 2)), (.var 3)]) (.name 3) .rng [(.con (.int 5))] [] [2, 3]), (.call "way_of_area" false [(.con (.int 1)), (.con (.int 1)), (.con (.int 1))]), (.call "way_of_area" false [(.con (.int 1)), (.con (.int 1)), (.con (.int 2))]), (.lc (.call "count_turns" false [(.con (.int 2)), (.con (.int 2)), (.var 3)]) (.name 3) .rng [(.con (.int 5))] [] [2, 3]), (.call "count_turns" false [(.con (.int 0)), (.con (.int 3)), (.con (.int 0))])]),
  .asg (.name 0) (.bin .Add (.var 0) (.lst [(.call "area_of" false [(.tup [(.tup [(.con (.int 0)), (.con (.int 0))])])]), (.call "count_turns_of" false [(.tup [(.tup [(.con (.int 0)), (.con (.int 0))])])]), (.call "count_area" false [(.con (.int 0)), (.con (.int 0)), (.con (.int 0))]), (.call "count_area" false [(.con (.int 30)), (.con (.int 0)), (.con (.int 0))]), (.call "count_area" false [(.con (.int 0)), (.con (.int 30)), (.con (.int 1))]), (.call "way_of_area" false [(.con (.int 0)), (.con (.int 0)), (.con (.int 0))])])),
  .asg (.name 0) (.bin .Add (.var 0) (.lst [(.call "way_of_area" false [(.con (.int 2)), (.con (.int 0)), (.con (.int 0))]), (.call "way_of_area" false [(.con (.int 0)), (.con (.int 1)), (.con (.int 1))]), (.call "count_area" false [(.con (.int 30)), (.con (.int 30)), (.con (.int 901))]), (.call "count_turns" false [(.con (.int 30)), (.con (.int 30)), (.con (.int 60))]), (.call "count_turns" false [(.con (.int 30)), (.con (.int 30)), (.con (.int 59))]), (.call "area_of" false [(.tup [(.tup [(.con (.int 0)), (.con (.int 0))]), (.tup [(.con (.int 0)), (.con (.int 1))]), (.tup [(.con (.int 0)), (.con (.int 2))])])])])),
  .asg (.name 1) (.lst [(.con (.int 1)), (.lst [(.con (.int 1)), (.con (.int 1)), (.con (.int 2)), (.con (.int 1)), (.con (.int 1))]), (.tup [(.tup [(.con (.int 0)), (.con (.int 0))]), (.tup [(.con (.int 0)), (.con (.int 1))]), (.tup [(.con (.int 1)), (.con (.int 1))])]), (.con .non), (.lst [(.con (.int 0)), (.con (.int 2)), (.con (.int 2)), (.con (.int 2)), (.con (.int 0))]), (.con (.int 1)), (.con (.int 0)), (.con (.int 0)), (.con (.int 1)), (.con (.int 1)), (.con (.int 0)), (.tup [(.tup [(.con (.int 0)), (.con (.int 0))])]), (.tup [(.tup [(.con (.int 0)), (.con (.int 0))]), (.tup [(.con (.int 1)), (.con (.int 0))]), (.tup [(.con (.int 2)), (.con (.int 0))])]), (.con .non), (.con (.int 0)), (.con (.int 0)), (.con (.int 2)), (.con (.int 0))]),
  .ret (.call "_law_like" false [(.var 0), (.var 1)])]⟩
def d_law : Dn := ⟨topS 44, ["script", "cup", "turn"], ["script"], ["cup"], false, [
  .new 1 (.call "_law_cup" true [(.var 0)]),
  .for (.name 2) .rng [(.con (.int 4))] [.ife (.not (.call "_law_right" false [(.var 1), (.call "_law_roll" false [(.var 1), (.con (.int 6))]), (.call "_law_roll" false [(.var 1), (.con (.int 5))])])) [.ret (.con (.bl false))] []],
  .ret (.and (.call "_law_great_right" false [(.var 1)]) (.call "_law_written_right" false []))]⟩
def tb : Tb := [(("is_whole" : Str), d_is_whole), (("need_whole" : Str), d_need_whole), (("is_tuple_of" : Str), d_is_tuple_of), (("is_pair" : Str), d_is_pair), (("next_corners" : Str), d_next_corners), (("fits_way" : Str), d_fits_way), (("need_way" : Str), d_need_way), (("area_in" : Str), d_area_in), (("areas_of" : Str), d_areas_of), (("area_of" : Str), d_area_of), (("count_turns_of" : Str), d_count_turns_of), (("need_sides" : Str), d_need_sides), (("count_area" : Str), d_count_area), (("way_of_area" : Str), d_way_of_area), (("chosen" : Str), d_chosen), (("count_turns" : Str), d_count_turns), (("_law_cup" : Str), d__law_cup), (("_law_roll" : Str), d__law_roll), (("_law_some" : Str), d__law_some), (("_law_sort" : Str), d__law_sort), (("_law_like" : Str), d__law_like), (("_law_is_number" : Str), d__law_is_number), (("_law_is_corner" : Str), d__law_is_corner), (("_law_ways" : Str), d__law_ways), (("_law_is_way" : Str), d__law_is_way), (("_law_random_way" : Str), d__law_random_way), (("_law_chosen" : Str), d__law_chosen), (("_law_area" : Str), d__law_area), (("_law_turns" : Str), d__law_turns), (("_law_product" : Str), d__law_product), (("_law_right" : Str), d__law_right), (("_law_great_right" : Str), d__law_great_right), (("_law_written_right" : Str), d__law_written_right), (("law" : Str), d_law)]
theorem ok_is_whole : DnOk tb bis cs gcs "is_whole" d_is_whole := ⟨⟨rfl, rfl, rfl, by decide +kernel, rfl, by decide +kernel, by decide +kernel⟩, by kernel_rfl, fun _ _ _ _ _ _ us hl => match us, hl with | [_, _, _], _ => rfl⟩
theorem ok_need_whole : DnOk tb bis cs gcs "need_whole" d_need_whole := ⟨⟨rfl, rfl, rfl, by decide +kernel, rfl, by decide +kernel, by decide +kernel⟩, by kernel_rfl, fun _ _ _ _ _ _ us hl => match us, hl with | [_, _, _], _ => rfl⟩
theorem ok_is_tuple_of : DnOk tb bis cs gcs "is_tuple_of" d_is_tuple_of := ⟨⟨rfl, rfl, rfl, by decide +kernel, rfl, by decide +kernel, by decide +kernel⟩, by kernel_rfl, fun _ _ _ _ _ _ us hl => match us, hl with | [_, _, _], _ => rfl⟩
theorem ok_is_pair : DnOk tb bis cs gcs "is_pair" d_is_pair := ⟨⟨rfl, rfl, rfl, by decide +kernel, rfl, by decide +kernel, by decide +kernel⟩, by kernel_rfl, fun _ _ _ _ _ _ us hl => match us, hl with | [_, _, _], _ => rfl⟩
theorem ok_next_corners : DnOk tb bis cs gcs "next_corners" d_next_corners := ⟨⟨rfl, rfl, rfl, by decide +kernel, rfl, by decide +kernel, by decide +kernel⟩, by kernel_rfl, fun _ _ _ _ _ _ us hl => match us, hl with | [_], _ => rfl⟩
theorem ok_fits_way : DnOk tb bis cs gcs "fits_way" d_fits_way := ⟨⟨rfl, rfl, rfl, by decide +kernel, rfl, by decide +kernel, by decide +kernel⟩, by kernel_rfl, fun _ _ _ _ _ _ us hl => match us, hl with | [_, _, _, _], _ => rfl⟩
theorem ok_need_way : DnOk tb bis cs gcs "need_way" d_need_way := ⟨⟨rfl, rfl, rfl, by decide +kernel, rfl, by decide +kernel, by decide +kernel⟩, by kernel_rfl, fun _ _ _ _ _ _ us hl => match us, hl with | [_], _ => rfl⟩
theorem ok_area_in : DnOk tb bis cs gcs "area_in" d_area_in := ⟨⟨rfl, rfl, rfl, by decide +kernel, rfl, by decide +kernel, by decide +kernel⟩, by kernel_rfl, fun _ _ _ _ _ _ us hl => match us, hl with | [_], _ => rfl⟩
theorem ok_areas_of : DnOk tb bis cs gcs "areas_of" d_areas_of := ⟨⟨rfl, rfl, rfl, by decide +kernel, rfl, by decide +kernel, by decide +kernel⟩, by kernel_rfl, fun _ _ _ _ _ _ us hl => match us, hl with | [_, _], _ => rfl⟩
theorem ok_area_of : DnOk tb bis cs gcs "area_of" d_area_of := ⟨⟨rfl, rfl, rfl, by decide +kernel, rfl, by decide +kernel, by decide +kernel⟩, by kernel_rfl, fun _ _ _ _ _ _ us hl => match us, hl with | [_], _ => rfl⟩
theorem ok_count_turns_of : DnOk tb bis cs gcs "count_turns_of" d_count_turns_of := ⟨⟨rfl, rfl, rfl, by decide +kernel, rfl, by decide +kernel, by decide +kernel⟩, by kernel_rfl, fun _ _ _ _ _ _ us hl => match us, hl with | [_], _ => rfl⟩
theorem ok_need_sides : DnOk tb bis cs gcs "need_sides" d_need_sides := ⟨⟨rfl, rfl, rfl, by decide +kernel, rfl, by decide +kernel, by decide +kernel⟩, by kernel_rfl, fun _ _ _ _ _ _ us hl => match us, hl with | [_, _], _ => rfl⟩
theorem ok_count_area : DnOk tb bis cs gcs "count_area" d_count_area := ⟨⟨rfl, rfl, rfl, by decide +kernel, rfl, by decide +kernel, by decide +kernel⟩, by kernel_rfl, fun _ _ _ _ _ _ us hl => match us, hl with | [_, _, _], _ => rfl⟩
theorem ok_way_of_area : DnOk tb bis cs gcs "way_of_area" d_way_of_area := ⟨⟨rfl, rfl, rfl, by decide +kernel, rfl, by decide +kernel, by decide +kernel⟩, by kernel_rfl, fun _ _ _ _ _ _ us hl => match us, hl with | [_, _, _], _ => rfl⟩
theorem ok_chosen : DnOk tb bis cs gcs "chosen" d_chosen := ⟨⟨rfl, rfl, rfl, by decide +kernel, rfl, by decide +kernel, by decide +kernel⟩, by kernel_rfl, fun _ _ _ _ _ _ us hl => match us, hl with | [_, _], _ => rfl⟩
theorem ok_count_turns : DnOk tb bis cs gcs "count_turns" d_count_turns := ⟨⟨rfl, rfl, rfl, by decide +kernel, rfl, by decide +kernel, by decide +kernel⟩, by kernel_rfl, fun _ _ _ _ _ _ us hl => match us, hl with | [_, _, _], _ => rfl⟩
theorem ok__law_cup : DnOk tb bis cs gcs "_law_cup" d__law_cup := ⟨⟨rfl, rfl, rfl, by decide +kernel, rfl, by decide +kernel, by decide +kernel⟩, by kernel_rfl, fun _ _ _ _ _ _ us hl => match us, hl with | [_], _ => rfl⟩
theorem ok__law_roll : DnOk tb bis cs gcs "_law_roll" d__law_roll := ⟨⟨rfl, rfl, rfl, by decide +kernel, rfl, by decide +kernel, by decide +kernel⟩, by kernel_rfl, fun _ _ _ _ _ _ us hl => match us, hl with | [_, _], _ => rfl⟩
theorem ok__law_some : DnOk tb bis cs gcs "_law_some" d__law_some := ⟨⟨rfl, rfl, rfl, by decide +kernel, rfl, by decide +kernel, by decide +kernel⟩, by kernel_rfl, fun _ _ _ _ _ _ us hl => match us, hl with | [_, _], _ => rfl⟩
theorem ok__law_sort : DnOk tb bis cs gcs "_law_sort" d__law_sort := ⟨⟨rfl, rfl, rfl, by decide +kernel, rfl, by decide +kernel, by decide +kernel⟩, by kernel_rfl, fun _ _ _ _ _ _ us hl => match us, hl with | [_], _ => rfl⟩
theorem ok__law_like : DnOk tb bis cs gcs "_law_like" d__law_like := ⟨⟨rfl, rfl, rfl, by decide +kernel, rfl, by decide +kernel, by decide +kernel⟩, by kernel_rfl, fun _ _ _ _ _ _ us hl => match us, hl with | [_, _], _ => rfl⟩
theorem ok__law_is_number : DnOk tb bis cs gcs "_law_is_number" d__law_is_number := ⟨⟨rfl, rfl, rfl, by decide +kernel, rfl, by decide +kernel, by decide +kernel⟩, by kernel_rfl, fun _ _ _ _ _ _ us hl => match us, hl with | [_, _, _], _ => rfl⟩
theorem ok__law_is_corner : DnOk tb bis cs gcs "_law_is_corner" d__law_is_corner := ⟨⟨rfl, rfl, rfl, by decide +kernel, rfl, by decide +kernel, by decide +kernel⟩, by kernel_rfl, fun _ _ _ _ _ _ us hl => match us, hl with | [_, _, _], _ => rfl⟩
theorem ok__law_ways : DnOk tb bis cs gcs "_law_ways" d__law_ways := ⟨⟨rfl, rfl, rfl, by decide +kernel, rfl, by decide +kernel, by decide +kernel⟩, by kernel_rfl, fun _ _ _ _ _ _ us hl => match us, hl with | [_, _, _], _ => rfl⟩
theorem ok__law_is_way : DnOk tb bis cs gcs "_law_is_way" d__law_is_way := ⟨⟨rfl, rfl, rfl, by decide +kernel, rfl, by decide +kernel, by decide +kernel⟩, by kernel_rfl, fun _ _ _ _ _ _ us hl => match us, hl with | [_, _, _, _], _ => rfl⟩
theorem ok__law_random_way : DnOk tb bis cs gcs "_law_random_way" d__law_random_way := ⟨⟨rfl, rfl, rfl, by decide +kernel, rfl, by decide +kernel, by decide +kernel⟩, by kernel_rfl, fun _ _ _ _ _ _ us hl => match us, hl with | [_, _, _], _ => rfl⟩
theorem ok__law_chosen : DnOk tb bis cs gcs "_law_chosen" d__law_chosen := ⟨⟨rfl, rfl, rfl, by decide +kernel, rfl, by decide +kernel, by decide +kernel⟩, by kernel_rfl, fun _ _ _ _ _ _ us hl => match us, hl with | [_, _], _ => rfl⟩
theorem ok__law_area : DnOk tb bis cs gcs "_law_area" d__law_area := ⟨⟨rfl, rfl, rfl, by decide +kernel, rfl, by decide +kernel, by decide +kernel⟩, by kernel_rfl, fun _ _ _ _ _ _ us hl => match us, hl with | [_], _ => rfl⟩
theorem ok__law_turns : DnOk tb bis cs gcs "_law_turns" d__law_turns := ⟨⟨rfl, rfl, rfl, by decide +kernel, rfl, by decide +kernel, by decide +kernel⟩, by kernel_rfl, fun _ _ _ _ _ _ us hl => match us, hl with | [_], _ => rfl⟩
theorem ok__law_product : DnOk tb bis cs gcs "_law_product" d__law_product := ⟨⟨rfl, rfl, rfl, by decide +kernel, rfl, by decide +kernel, by decide +kernel⟩, by kernel_rfl, fun _ _ _ _ _ _ us hl => match us, hl with | [_, _], _ => rfl⟩
theorem ok__law_right : DnOk tb bis cs gcs "_law_right" d__law_right := ⟨⟨rfl, rfl, rfl, by decide +kernel, rfl, by decide +kernel, by decide +kernel⟩, by kernel_rfl, fun _ _ _ _ _ _ us hl => match us, hl with | [_, _, _], _ => rfl⟩
theorem ok__law_great_right : DnOk tb bis cs gcs "_law_great_right" d__law_great_right := ⟨⟨rfl, rfl, rfl, by decide +kernel, rfl, by decide +kernel, by decide +kernel⟩, by kernel_rfl, fun _ _ _ _ _ _ us hl => match us, hl with | [_], _ => rfl⟩
theorem ok__law_written_right : DnOk tb bis cs gcs "_law_written_right" d__law_written_right := ⟨⟨rfl, rfl, rfl, by decide +kernel, rfl, by decide +kernel, by decide +kernel⟩, by kernel_rfl, fun _ _ _ _ _ _ us hl => match us, hl with | [], _ => rfl⟩
theorem ok_law : DnOk tb bis cs gcs "law" d_law := ⟨⟨rfl, rfl, rfl, by decide +kernel, rfl, by decide +kernel, by decide +kernel⟩, by kernel_rfl, fun _ _ _ _ _ _ us hl => match us, hl with | [_], _ => rfl⟩
theorem ok_all : AllP (DnOk tb bis cs gcs) tb := ⟨ok_is_whole, ok_need_whole, ok_is_tuple_of, ok_is_pair, ok_next_corners, ok_fits_way, ok_need_way, ok_area_in, ok_areas_of, ok_area_of, ok_count_turns_of, ok_need_sides, ok_count_area, ok_way_of_area, ok_chosen, ok_count_turns, ok__law_cup, ok__law_roll, ok__law_some, ok__law_sort, ok__law_like, ok__law_is_number, ok__law_is_corner, ok__law_ways, ok__law_is_way, ok__law_random_way, ok__law_chosen, ok__law_area, ok__law_turns, ok__law_product, ok__law_right, ok__law_great_right, ok__law_written_right, ok_law, trivial⟩
abbrev run (k : Nat) : CallF := callF tb.tab 600 k
end Lk34

set_option Elab.async false
set_option linter.all false
set_option maxRecDepth 100000
set_option maxHeartbeats 4000000
namespace Lk34
open PySem DV
/-! ### ways of an area, plainly -/
def N : Nat → Nat → Int → Int
  | 0, _, k => if k = 0 then 1 else 0
  | _ + 1, 0, k => if k = 0 then 1 else 0
  | w + 1, h + 1, k => N w (h + 1) (k - ((h + 1 : Nat) : Int)) + N (w + 1) h k
termination_by w h _ => (w, h)
theorem N0 (h : Nat) (k : Int) : N 0 h k = if k = 0 then 1 else 0 := by rw [N]
theorem Nh0 (w : Nat) (k : Int) : N w 0 k = if k = 0 then 1 else 0 := by
  cases w with
  | zero => exact N0 0 k
  | succ w => rw [N]
theorem R1 (w h : Nat) (k : Int) : N (w + 1) (h + 1) k = N w (h + 1) (k - ((h + 1 : Nat) : Int)) + N (w + 1) h k := by rw [N]
theorem N_neg : ∀ (w h : Nat) (k : Int), k < 0 → N w h k = 0
  | 0, h, k, hk => by rw [N0, if_neg (by omega)]
  | w + 1, 0, k, hk => by rw [Nh0, if_neg (by omega)]
  | w + 1, h + 1, k, hk => by rw [R1, N_neg w (h + 1) _ (by omega), N_neg (w + 1) h k hk]; rfl
termination_by w h _ _ => (w, h)
theorem R2 : ∀ (w h : Nat) (k : Int), N (w + 1) (h + 1) k = N w (h + 1) k + N (w + 1) h (k - ((w + 1 : Nat) : Int))
  | 0, 0, k => by
    rw [R1, N0, N0, Nh0, Nh0]
    omega
  | 0, h + 1, k => by
    have i1 := R2 0 h k
    have i2 := R1 0 h (k - ((0 + 1 : Nat) : Int))
    rw [R1, i1, i2, N0, N0, N0, N0]
    have : (k - ((h + 1 + 1 : Nat) : Int) = 0) ↔ (k - ((0 + 1 : Nat) : Int) - ((h + 1 : Nat) : Int) = 0) := by omega
    simp only [this]
    omega
  | w + 1, 0, k => by
    have i1 := R2 w 0 (k - ((0 + 1 : Nat) : Int))
    have i2 := R1 w 0 k
    rw [R1, i1, i2, Nh0, Nh0, Nh0, Nh0]
    have : (k - ((0 + 1 : Nat) : Int) - ((w + 1 : Nat) : Int) = 0) ↔ (k - ((w + 1 + 1 : Nat) : Int) = 0) := by omega
    simp only [this]
    omega
  | w + 1, h + 1, k => by
    have i1 := R2 w (h + 1) (k - ((h + 1 + 1 : Nat) : Int))
    have i2 := R2 (w + 1) h k
    have i3 := R1 w (h + 1) k
    have i4 := R1 (w + 1) h (k - ((w + 1 + 1 : Nat) : Int))
    rw [R1, i1, i2, i3, i4]
    have : k - ((h + 1 + 1 : Nat) : Int) - ((w + 1 : Nat) : Int) = k - ((w + 1 + 1 : Nat) : Int) - ((h + 1 : Nat) : Int) := by omega
    rw [this]
    omega
termination_by w h _ => (w, h)
theorem N_sym : ∀ (w h : Nat) (k : Int), N w h k = N h w k
  | 0, h, k => by rw [N0, Nh0]
  | w + 1, 0, k => by rw [N0, Nh0]
  | w + 1, h + 1, k => by
    rw [R1, R2 h w k, N_sym w (h + 1), N_sym (w + 1) h]
    omega
termination_by w h _ => (w, h)
theorem N_pal : ∀ (w h : Nat) (k : Int), N w h k = N w h ((w * h : Nat) - k)
  | 0, h, k => by
    rw [N0, N0]
    have : (k = 0) ↔ (((0 * h : Nat) : Int) - k = 0) := by simp
    simp only [this]
  | w + 1, 0, k => by
    rw [Nh0, Nh0]
    have : (k = 0) ↔ ((((w + 1) * 0 : Nat) : Int) - k = 0) := by simp
    simp only [this]
  | w + 1, h + 1, k => by
    rw [R1, R2 w h, N_pal w (h + 1) (k - ((h + 1 : Nat) : Int)), N_pal (w + 1) h k]
    have e1 : ((w * (h + 1) : Nat) : Int) - (k - ((h + 1 : Nat) : Int)) = (((w + 1) * (h + 1) : Nat) : Int) - k := by
      rw [Nat.succ_mul]; omega
    have e2 : (((w + 1) * h : Nat) : Int) - k = (((w + 1) * (h + 1) : Nat) : Int) - k - ((w + 1 : Nat) : Int) := by
      rw [Nat.mul_succ]; omega
    rw [e1, e2]
termination_by w h _ => (w, h)
theorem N_zero : ∀ w h : Nat, N w h 0 = 1
  | 0, h => by rw [N0]; rfl
  | w + 1, 0 => by rw [Nh0]; rfl
  | w + 1, h + 1 => by rw [R1, N_neg _ _ _ (by omega), N_zero (w + 1) h]; rfl
termination_by w h => (w, h)
theorem N_top {w h : Nat} {k : Int} (hk : ((w * h : Nat) : Int) < k) : N w h k = 0 := by
  rw [N_pal, N_neg _ _ _ (by omega)]
theorem N_full (w h : Nat) : N w h ((w * h : Nat) : Int) = 1 := by
  rw [N_pal, Int.sub_self, N_zero]
/-- the product's step -/
theorem N_step (w h : Nat) (k : Int) : N (w + 1) h k = N w h k - N w h (k - h - ((w + 1 : Nat) : Int)) + N (w + 1) h (k - ((w + 1 : Nat) : Int)) := by
  cases h with
  | zero =>
    rw [Nh0, Nh0, Nh0, Nh0]
    have : (k - ((0 : Nat) : Int) - ((w + 1 : Nat) : Int) = 0) ↔ (k - ((w + 1 : Nat) : Int) = 0) := by omega
    simp only [this]
    omega
  | succ h =>
    have i1 := R2 w h k
    have i2 := R1 w h (k - ((w + 1 : Nat) : Int))
    rw [i1, i2]
    have : k - ((h + 1 : Nat) : Int) - ((w + 1 : Nat) : Int) = k - ((w + 1 : Nat) : Int) - ((h + 1 : Nat) : Int) := by omega
    rw [this]
    omega
/-! Pascal's numbers -/
def Cb : Nat → Nat → Nat
  | _, 0 => 1
  | 0, _ + 1 => 0
  | n + 1, k + 1 => Cb n k + Cb n (k + 1)
theorem Cb0 (n : Nat) : Cb n 0 = 1 := by cases n <;> rfl
theorem Cb_zero : ∀ {n k : Nat}, n < k → Cb n k = 0
  | 0, k + 1, _ => rfl
  | n + 1, k + 1, h => by
    show Cb n k + Cb n (k + 1) = 0
    rw [Cb_zero (by omega), Cb_zero (by omega)]
theorem Cb_mul : ∀ n k : Nat, ((k : Int) + 1) * (Cb n (k + 1) : Int) + (k : Int) * (Cb n k : Int) = (n : Int) * (Cb n k : Int)
  | 0, 0 => by simp [Cb]
  | 0, k + 1 => by simp [Cb]
  | n + 1, 0 => by
    have i := Cb_mul n 0
    simp only [Cb, Cb0] at i ⊢
    simp at i ⊢
    omega
  | n + 1, k + 1 => by
    have i1 := Cb_mul n (k + 1)
    have i2 := Cb_mul n k
    show (((k + 1 : Nat) : Int) + 1) * ((Cb n (k + 1) + Cb n (k + 1 + 1) : Nat) : Int) + ((k + 1 : Nat) : Int) * ((Cb n k + Cb n (k + 1) : Nat) : Int) = ((n + 1 : Nat) : Int) * ((Cb n k + Cb n (k + 1) : Nat) : Int)
    simp only [Int.natCast_add, Int.natCast_one] at i1 i2 ⊢
    grind
/-! sums -/
def T (f : Int → Int) (m : Nat) : Int := ((List.range m).map fun k => f (k : Nat)).sum
theorem T_succ (f : Int → Int) (m : Nat) : T f (m + 1) = T f m + f (m : Nat) := by
  unfold T
  rw [List.range_succ, List.map_append, List.sum_append]
  simp
theorem T_add (f g : Int → Int) : ∀ m : Nat, T (fun k => f k + g k) m = T f m + T g m
  | 0 => rfl
  | m + 1 => by rw [T_succ, T_succ, T_succ, T_add f g m]; omega
theorem T_shift {f : Int → Int} (hf : ∀ k < 0, f k = 0) (a : Nat) : ∀ m : Nat, T (fun k => f (k - (a : Int))) m = T f (m - a)
  | 0 => by simp [T]
  | m + 1 => by
    rw [T_succ, T_shift hf a m]
    rcases Nat.lt_or_ge m a with h | h
    · rw [hf _ (by omega), show m + 1 - a = 0 by omega, show m - a = 0 by omega]; simp
    · rw [show m + 1 - a = (m - a) + 1 by omega, T_succ, show ((m - a : Nat) : Int) = (m : Int) - a by omega]
theorem T_delta : ∀ m : Nat, 0 < m → T (fun k => if k = 0 then 1 else 0) m = 1
  | 1, _ => by simp [T]
  | m + 2, _ => by
    rw [T_succ, T_delta (m + 1) (by omega), if_neg (by omega)]; rfl
theorem N_sum : ∀ (w h m : Nat), w * h < m → T (N w h) m = (Cb (w + h) h : Int)
  | 0, h, m, hm => by
    have e : N 0 h = fun k => if k = 0 then 1 else 0 := funext (N0 h)
    rw [e, T_delta m (by omega)]
    have : ∀ h, Cb (0 + h) h = 1 := by
      intro h
      rw [Nat.zero_add]
      induction h with
      | zero => rfl
      | succ h ih =>
        show Cb h h + Cb h (h + 1) = 1
        rw [ih, Cb_zero (by omega)]
    rw [this]; rfl
  | w + 1, 0, m, hm => by
    have e : N (w + 1) 0 = fun k => if k = 0 then 1 else 0 := funext (Nh0 (w + 1))
    rw [e, T_delta m (by omega), Cb0]; rfl
  | w + 1, h + 1, m, hm => by
    have e : N (w + 1) (h + 1) = fun k => N w (h + 1) (k - ((h + 1 : Nat) : Int)) + N (w + 1) h k := funext (R1 w h)
    have h1 : (w + 1) * (h + 1) = w * (h + 1) + (h + 1) := Nat.succ_mul _ _
    have h2 : (w + 1) * (h + 1) = (w + 1) * h + (w + 1) := Nat.mul_succ _ _
    rw [e, T_add (fun k => N w (h + 1) (k - ((h + 1 : Nat) : Int))), T_shift (fun k hk => N_neg w (h + 1) k hk), N_sum w (h + 1) _ (by omega), N_sum (w + 1) h m (by omega)]
    have e3 : Cb (w + 1 + (h + 1)) (h + 1) = Cb (w + 1 + h) h + Cb (w + 1 + h) (h + 1) := rfl
    rw [e3, show w + (h + 1) = w + 1 + h by omega]
    omega
termination_by w h _ _ => (w, h)
end Lk34

set_option Elab.async false
set_option linter.all false
set_option maxRecDepth 100000
set_option maxHeartbeats 4000000
namespace Lk34
open PySem DV
theorem lk_sort : tb.tab.lookup ("_law_sort" : Str) = some df_sort := by kernel_rfl
theorem lk_like : tb.tab.lookup ("_law_like" : Str) = some df_like := by kernel_rfl
theorem lk_roll : tb.tab.lookup ("_law_roll" : Str) = some df_roll := by kernel_rfl
theorem lk_cup : tb.tab.lookup ("_law_cup" : Str) = some df_cup := by kernel_rfl
theorem lk_some : tb.tab.lookup ("_law_some" : Str) = some df_some := by kernel_rfl
theorem lk_whole : tb.tab.lookup ("is_whole" : Str) = some df_is_whole := by kernel_rfl
theorem lk_tup : tb.tab.lookup ("is_tuple_of" : Str) = some df_is_tuple_of := by kernel_rfl
variable {k : Nat} {S : Store}
abbrev M (a b : Int) : D := .tup [.int a, .int b]
theorem eqD_tups (xs ys : List Int) : eqD (.tup (xs.map .int)) (.tup (ys.map .int)) = some (decide (xs = ys)) := by
  obtain ⟨h1, h2⟩ := shaped_ints xs
  obtain ⟨h3, h4⟩ := shaped_ints ys
  simp only [eqD, toPy, toPys_ints, Option.map_some]
  simp [SeqAt.shaped, PyData.canLay0, PyData.depth, h1, h2, h3, h4, PyData.eqv, eqvAll_ints]
theorem eqD_M {a b c d : Int} : eqD (M a b) (M c d) = some (decide (a = c) && decide (b = d)) := by
  have := eqD_tups [a, b] [c, d]
  simp only [List.map_cons, List.map_nil] at this
  rw [this]
  simp
/-! ### ways by their moves: to the right, up -/
def ox (b : Bool) : Int := if b = true then 1 else 0
def oy (b : Bool) : Int := if b = true then 0 else 1
theorem ox_t : ox true = 1 := rfl
theorem ox_f : ox false = 0 := rfl
theorem oy_t : oy true = 0 := rfl
theorem oy_f : oy false = 1 := rfl
def X : List Bool → Int
  | [] => 0
  | b :: bs => ox b + X bs
def Y : List Bool → Int
  | [] => 0
  | b :: bs => oy b + Y bs
theorem X0 : ∀ bs, 0 ≤ X bs
  | [] => Int.le_refl _
  | b :: bs => by have := X0 bs; cases b <;> simp only [X, ox_t, ox_f] <;> omega
theorem Y0 : ∀ bs, 0 ≤ Y bs
  | [] => Int.le_refl _
  | b :: bs => by have := Y0 bs; cases b <;> simp only [Y, oy_t, oy_f] <;> omega
theorem XY : ∀ bs : List Bool, X bs + Y bs = (bs.length : Int)
  | [] => rfl
  | b :: bs => by have := XY bs; cases b <;> simp only [X, Y, ox_t, ox_f, oy_t, oy_f, List.length_cons] <;> omega
theorem X_app : ∀ bs cs : List Bool, X (bs ++ cs) = X bs + X cs
  | [], cs => by simp [X]
  | b :: bs, cs => by simp only [List.cons_append, X, X_app bs cs]; omega
theorem Y_app : ∀ bs cs : List Bool, Y (bs ++ cs) = Y bs + Y cs
  | [], cs => by simp [Y]
  | b :: bs, cs => by simp only [List.cons_append, Y, Y_app bs cs]; omega
def wy : Int → Int → List Bool → List D
  | x, y, [] => [M x y]
  | x, y, b :: bs => M x y :: wy (x + ox b) (y + oy b) bs
theorem wy_len : ∀ {bs : List Bool} {x y : Int}, (wy x y bs).length = bs.length + 1
  | [], _, _ => rfl
  | b :: bs, x, y => by simp only [wy, List.length_cons, wy_len (bs := bs)]
theorem wy_head (x y : Int) (bs : List Bool) : ∃ r, wy x y bs = M x y :: r := by cases bs <;> exact ⟨_, rfl⟩
theorem wy_last : ∀ (bs : List Bool) (x y : Int), ∃ r, wy x y bs = r ++ [M (x + X bs) (y + Y bs)]
  | [], x, y => ⟨[], by simp [wy, X, Y]⟩
  | b :: bs, x, y => by
    obtain ⟨r, e⟩ := wy_last bs (x + ox b) (y + oy b)
    refine ⟨M x y :: r, ?_⟩
    rw [wy, e]
    simp only [X, Y, List.cons_append, Int.add_assoc]
theorem wy_snoc : ∀ (bs : List Bool) (x y : Int) (b : Bool), wy x y (bs ++ [b]) = wy x y bs ++ [M (x + X bs + ox b) (y + Y bs + oy b)]
  | [], x, y, b => by simp [wy, X, Y]
  | c :: bs, x, y, b => by
    rw [List.cons_append, wy, wy_snoc bs, wy]
    simp only [X, Y, List.cons_append, Int.add_assoc]
theorem at0 {x y : Int} {bs : List Bool} : L2.atI (wy x y bs) 0 = some (M x y) := by
  obtain ⟨r, e⟩ := wy_head x y bs
  rw [e]; exact atI0
theorem atL {x y : Int} {bs : List Bool} : L2.atI (wy x y bs) (-1) = some (M (x + X bs) (y + Y bs)) := by
  obtain ⟨r, e⟩ := wy_last bs x y
  rw [e]; exact atI_last
theorem wy_mem : ∀ {bs : List Bool} {x y : Int} {d : D}, d ∈ wy x y bs → ∃ a b, d = M a b ∧ x ≤ a ∧ a ≤ x + X bs ∧ y ≤ b ∧ b ≤ y + Y bs
  | [], x, y, d, h => by
    simp only [wy, List.mem_singleton] at h
    exact ⟨x, y, h, by simp only [X, Y]; omega⟩
  | b :: bs, x, y, d, h => by
    have x0 := X0 bs
    have y0 := Y0 bs
    simp only [wy, List.mem_cons] at h
    rcases h with rfl | h
    · exact ⟨x, y, rfl, by cases b <;> simp only [X, Y, ox_t, ox_f, oy_t, oy_f] <;> omega⟩
    · obtain ⟨a, c, e, h1, h2, h3, h4⟩ := wy_mem h
      refine ⟨a, c, e, ?_⟩
      cases b <;> simp only [X, Y, ox_t, ox_f, oy_t, oy_f] at h1 h2 h3 h4 ⊢ <;> omega
/-- zip(way, way[1:]) -/
def pz : Int → Int → List Bool → List D
  | _, _, [] => []
  | x, y, b :: bs => .tup [M x y, M (x + ox b) (y + oy b)] :: pz (x + ox b) (y + oy b) bs
theorem zip1 : ∀ (bs : List Bool) (x y : Int), zipD (wy x y bs) (cutD (wy x y bs) (some 1) none) = pz x y bs := by
  have h : ∀ (bs : List Bool) (x y : Int), zipD (wy x y bs) (wy x y bs).tail = pz x y bs := by
    intro bs
    induction bs with
    | nil => intro x y; rfl
    | cons b bs ih =>
      intro x y
      have := ih (x + ox b) (y + oy b)
      obtain ⟨r, e⟩ := wy_head (x + ox b) (y + oy b) bs
      rw [pz, ← this]
      simp only [wy, List.tail_cons]
      rw [e]
      simp [zipD]
  intro bs x y
  rw [show cutD (wy x y bs) (some 1) none = (wy x y bs).drop 1 from cut_fromG (i := 1), List.drop_one]
  exact h bs x y
theorem pz_len : ∀ {bs : List Bool} {x y : Int}, (pz x y bs).length = bs.length
  | [], _, _ => rfl
  | b :: bs, x, y => by simp only [pz, List.length_cons, pz_len (bs := bs)]
theorem pz_mem : ∀ {bs : List Bool} {x y : Int} {d : D}, d ∈ pz x y bs → ∃ a c b, d = .tup [M a c, M (a + ox b) (c + oy b)]
  | [], x, y, d, h => by cases h
  | b :: bs, x, y, d, h => by
    simp only [pz, List.mem_cons] at h
    rcases h with rfl | h
    · exact ⟨x, y, b, rfl⟩
    · exact pz_mem h
/-- zip(way, way[2:]) -/
def pz2 : Int → Int → List Bool → List D
  | x, y, b :: c :: bs => .tup [M x y, M (x + ox b + ox c) (y + oy b + oy c)] :: pz2 (x + ox b) (y + oy b) (c :: bs)
  | _, _, _ => []
theorem zip2 : ∀ (bs : List Bool) (x y : Int), zipD (wy x y bs) (cutD (wy x y bs) (some 2) none) = pz2 x y bs := by
  have h : ∀ (bs : List Bool) (x y : Int), zipD (wy x y bs) ((wy x y bs).drop 2) = pz2 x y bs := by
    intro bs
    induction bs with
    | nil => intro x y; rfl
    | cons b bs ih =>
      intro x y
      cases bs with
      | nil => rfl
      | cons c bs =>
        have := ih (x + ox b) (y + oy b)
        rw [pz2, ← this]
        obtain ⟨r, e⟩ := wy_head (x + ox b + ox c) (y + oy b + oy c) bs
        simp only [wy, List.drop_succ_cons, List.drop_zero]
        rw [e]
        simp [zipD]
  intro bs x y
  rw [show cutD (wy x y bs) (some 2) none = (wy x y bs).drop 2 from cut_fromG (i := 2)]
  exact h bs x y
/-- the area, the turns -/
def ar : Int → List Bool → Int
  | _, [] => 0
  | y, b :: bs => (if b = true then y else 0) + ar (y + oy b) bs
def tr : List Bool → Nat
  | b :: c :: bs => (if b = c then 0 else 1) + tr (c :: bs)
  | _ => 0
theorem ar_app : ∀ (bs cs : List Bool) (y : Int), ar y (bs ++ cs) = ar y bs + ar (y + Y bs) cs
  | [], cs, y => by simp [ar, Y]
  | b :: bs, cs, y => by
    simp only [List.cons_append, ar, Y, ar_app bs cs]
    rw [show y + oy b + Y bs = y + (oy b + Y bs) by omega]
    omega
theorem X_not : ∀ bs : List Bool, X (bs.map (!·)) = Y bs
  | [] => rfl
  | b :: bs => by simp only [List.map_cons, X, Y, X_not bs]; cases b <;> rfl
theorem Y_not : ∀ bs : List Bool, Y (bs.map (!·)) = X bs
  | [] => rfl
  | b :: bs => by simp only [List.map_cons, X, Y, Y_not bs]; cases b <;> rfl
theorem tr_not : ∀ bs : List Bool, tr (bs.map (!·)) = tr bs
  | [] => rfl
  | [b] => rfl
  | b :: c :: bs => by
    have := tr_not (c :: bs)
    simp only [List.map_cons] at this
    simp only [List.map_cons, tr, this]
    cases b <;> cases c <;> rfl
theorem ar_not : ∀ (bs : List Bool) (x y : Int), ar x (bs.map (!·)) + ar y bs = (x + X bs) * (y + Y bs) - x * y
  | [], x, y => by simp [ar, X, Y]
  | b :: bs, x, y => by
    have := ar_not bs (x + ox b) (y + oy b)
    have e : oy (!b) = ox b := by cases b <;> rfl
    simp only [List.map_cons, ar, X, Y, e]
    cases b <;> simp [ox_t, ox_f, oy_t, oy_f] at this ⊢ <;> grind
/-! ### walks of the package's functions -/
theorem s_is_pair {a b : Int} {w h : Int} : run (k + 2) "is_pair" [.p (M a b), .p (.int w), .p (.int h)] S = .ok (.p (.bl (decide (0 ≤ a) && decide (a ≤ w) && (decide (0 ≤ b) && decide (b ≤ h))))) S := by
  rw [run, callF_succ (d := d_is_pair.df) (by kernel_rfl) rfl]
  have e1 := g_is_tuple_of (T := tb.tab) (wf := 600) (k := k) (S := S) lk_tup (M a b) 2 2 rfl
  rw [show tupN (M a b) 2 2 = true by simp [tupN]] at e1
  have e2 := g_is_whole (T := tb.tab) (wf := 600) (k := k) (S := S) lk_whole (.int a) 0 w rfl
  have e3 := g_is_whole (T := tb.tab) (wf := 600) (k := k) (S := S) lk_whole (.int b) 0 h rfl
  simp only [wh] at e2 e3
  by_cases ha : 0 ≤ a ∧ a ≤ w
  · simp [d_is_pair, Dn.df, e1, e2, e3, atI0, atI1, ha]
  · have hb : (decide (0 ≤ a) && decide (a ≤ w)) = false := by simpa using ha
    rw [hb] at e2
    simp [d_is_pair, Dn.df, e1, e2, e3, atI0, atI1, hb]
theorem s_next {a b : Int} : run (k + 1) "next_corners" [.p (M a b)] S = .ok (.p (.lst [M a (b + 1), M (a + 1) b])) S := by
  rw [run, callF_succ (d := d_next_corners.df) (by kernel_rfl) rfl]
  simp [d_next_corners, Dn.df, atI0, atI1, pures]
theorem isIn_M2 {a b c d e f : Int} : isIn (M a b) (.lst [M c d, M e f]) = some ((decide (c = a) && decide (d = b)) || (decide (e = a) && decide (f = b))) := by
  have e1 : ∀ x y z w : Int, PyData.eqv (.tuple [.int x, .int y]) (.tuple [.int z, .int w]) = (decide (x = z) && decide (y = w)) := fun x y z w => by
    simp [PyData.eqv, PyData.eqvAll]
    rfl
  have s : ∀ x y : Int, toPy (M x y) = some (.tuple [.int x, .int y]) := fun x y => rfl
  have t : toPys [M c d, M e f] = some [.tuple [.int c, .int d], .tuple [.int e, .int f]] := rfl
  simp only [isIn, s, t]
  rw [if_pos ⟨rfl, rfl⟩]
  simp [e1]
theorem isIn_MT {a b c d e f : Int} : isIn (M a b) (.tup [M c d, M e f]) = some ((decide (c = a) && decide (d = b)) || (decide (e = a) && decide (f = b))) := by
  have e1 : ∀ x y z w : Int, PyData.eqv (.tuple [.int x, .int y]) (.tuple [.int z, .int w]) = (decide (x = z) && decide (y = w)) := fun x y z w => by
    simp [PyData.eqv, PyData.eqvAll]
    rfl
  have s : ∀ x y : Int, toPy (M x y) = some (.tuple [.int x, .int y]) := fun x y => rfl
  have t : toPys [M c d, M e f] = some [.tuple [.int c, .int d], .tuple [.int e, .int f]] := rfl
  simp only [isIn, s, t]
  rw [if_pos ⟨rfl, rfl⟩]
  simp [e1]
theorem isIn_M0 {a b : Int} : isIn (M a b) (.tup []) = some false := by
  have s : toPy (M a b) = some (.tuple [.int a, .int b]) := rfl
  simp only [isIn, s, toPys]
  rw [if_pos ⟨rfl, rfl⟩]
  rfl
end Lk34

set_option Elab.async false
set_option linter.all false
set_option maxRecDepth 100000
set_option maxHeartbeats 4000000
namespace Lk34
open PySem DV
variable {k : Nat} {S : Store}
theorem pz_all {c : D → D} : ∀ {bs : List Bool} {x y : Int}, (∀ d ∈ pz x y bs, c d = .bl true) → (pz x y bs).map c = bs.map fun _ => .bl true
  | [], _, _, _ => rfl
  | b :: bs, x, y, h => by
    simp only [pz, List.map_cons, List.mem_cons] at h ⊢
    rw [h _ (.inl rfl), pz_all fun d hd => h d (.inr hd)]
theorem bls_true {α : Type} (xs : List α) : biAll [.lst (xs.map fun _ => D.bl true)] = some (.bl true) := by
  show (blsOf _).map _ = _
  rw [blsOf_map (fun _ => true)]
  simp
theorem bls_false {α : Type} (xs : List α) : biAny [.lst (xs.map fun _ => D.bl false)] = some (.bl false) := by
  show (blsOf _).map _ = _
  rw [blsOf_map (fun _ => false)]
  simp
theorem s_fits {bs : List Bool} (hx : X bs ≤ 30) (hy : Y bs ≤ 30) : run (k + 3) "fits_way" [.p (.tup [.int 30, .int 30, .tup []]), .p (M 0 0), .p (M (X bs) (Y bs)), .p (D.tup (wy 0 0 (bs)))] S = .ok (.p (.bl true)) S := by
  have hl := XY bs
  have hz : (wy 0 0 bs).length ≤ sizeLine := size1000 (by rw [wy_len]; omega)
  have e1 := g_is_tuple_of (T := tb.tab) (wf := 600) (k := k + 1) (S := S) lk_tup (D.tup (wy 0 0 (bs))) 1 61 rfl
  rw [show tupN (D.tup (wy 0 0 (bs))) 1 61 = true by simp [tupN, wy_len]; omega] at e1
  have h0 := at0 (x := 0) (y := 0) (bs := bs)
  have h1 := atL (x := 0) (y := 0) (bs := bs)
  have hm := fun d => wy_mem (bs := bs) (x := 0) (y := 0) (d := d)
  have hzip := zip1 bs 0 0
  have a2 : ∀ xs : List D, L2.atI [D.int 30, .int 30, .tup xs] 2 = some (.tup xs) := fun xs => rfl
  have hp := fun d => pz_mem (bs := bs) (x := 0) (y := 0) (d := d)
  have hpl := pz_len (bs := bs) (x := 0) (y := 0)
  have hpa := fun c => pz_all (c := c) (bs := bs) (x := 0) (y := 0)
  generalize hw : wy 0 0 bs = W at *
  generalize hpz : pz 0 0 bs = P at *
  have lc1 : evE (callF tb.tab 600 (k + 2)) (.lc (.call "is_pair" false [(.var 6), (.ix (.var 0) (.con (.int 0))), (.ix (.var 0) (.con (.int 1)))]) (.name 6) .seq [(.var 3)] [] [5, 6]) [some (.p (.tup [.int 30, .int 30, .tup []])), some (.p (M 0 0)), some (.p (M (X bs) (Y bs))), some (.p (.tup W)), none, none, none, none, none] S = .ok (.p (.lst (W.map fun _ => .bl true))) S := by
    refine lc_map (vs := [.p (.tup W)]) (ds := W) (W := []) (by simp) rfl rfl _ (fun d hd => ?_) hz
    obtain ⟨a, b, rfl, q1, q2, q3, q4⟩ := hm d hd
    have e2 := s_is_pair (k := k) (S := S) (a := a) (b := b) (w := 30) (h := 30)
    rw [show (decide (0 ≤ a) && decide (a ≤ 30) && (decide (0 ≤ b) && decide (b ≤ 30))) = true by simp; omega] at e2
    simp [lcTurn, atI0, atI1, e2]
  have e : evB (callF tb.tab 600 (k + 2)) 600 d_fits_way.df.body [some (.p (.tup [.int 30, .int 30, .tup []])), some (.p (M 0 0)), some (.p (M (X bs) (Y bs))), some (.p (.tup W)), none, none, none, none, none] S = .ret (.p (.bl true)) S := ?_
  · have r := run_ret (T := tb.tab) (wf := 600) (k := k + 2) (x := "fits_way") (d := d_fits_way.df) (vs := [.p (.tup [.int 30, .int 30, .tup []]), .p (M 0 0), .p (M (X bs) (Y bs)), .p (.tup W)]) (S := S) (by kernel_rfl) rfl e
    rw [List.take_length] at r
    exact r
  refine (seqE (ρ' := [some (.p (.tup [.int 30, .int 30, .tup []])), some (.p (M 0 0)), some (.p (M (X bs) (Y bs))), some (.p (.tup W)), none, none, none, none, none]) (S' := S) ?_).trans ?_
  · simp [atI0, atI1, e1, lc1, ders, biF, bls_true]
  refine (seqE (ρ' := [some (.p (.tup [.int 30, .int 30, .tup []])), some (.p (M 0 0)), some (.p (M (X bs) (Y bs))), some (.p (.tup W)), none, none, none, none, none]) (S' := S) ?_).trans ?_
  · simp [h0, h1, eqD_M]
  have lc2 : evE (callF tb.tab 600 (k + 2)) (.lc (.tup [(.var 7), (.con (.bl true))]) (.name 7) .seq [(.ix (.var 0) (.con (.int 2)))] [] [5, 7]) [some (.p (.tup [.int 30, .int 30, .tup []])), some (.p (M 0 0)), some (.p (M (X bs) (Y bs))), some (.p (.tup W)), none, none, none, none, none] S = .ok (.p (.lst [])) S :=
    lc_map (vs := [.p (.tup [])]) (ds := []) (W := []) (by simp [a2]) rfl rfl id (fun d hd => by cases hd) (size1000 (by simp))
  refine (seqE (ρ' := [some (.p (.tup [.int 30, .int 30, .tup []])), some (.p (M 0 0)), some (.p (M (X bs) (Y bs))), some (.p (.tup W)), some (.p (.dct [] [])), none, none, none, none]) (S' := S) ?_).trans ?_
  · simp [lc2, ders, biF, biDict, pairsD, mergeZ, mkDct]
  have lc3 : evE (callF tb.tab 600 (k + 2)) (.lc (.cmp .In (.var 7) (.var 4)) (.name 7) .seq [(.var 3)] [] [5, 7]) [some (.p (.tup [.int 30, .int 30, .tup []])), some (.p (M 0 0)), some (.p (M (X bs) (Y bs))), some (.p (.tup W)), some (.p (.dct [] [])), none, none, none, none] S = .ok (.p (.lst (W.map fun _ => .bl false))) S := by
    refine lc_map (vs := [.p (.tup W)]) (ds := W) (W := []) (by simp) rfl rfl _ (fun d hd => ?_) hz
    obtain ⟨a, b, rfl, q1, q2, q3, q4⟩ := hm d hd
    have ei : cmpD .In (M a b) (.dct [] []) = some false := rfl
    simp [lcTurn, ei]
  refine (seqE (ρ' := [some (.p (.tup [.int 30, .int 30, .tup []])), some (.p (M 0 0)), some (.p (M (X bs) (Y bs))), some (.p (.tup W)), some (.p (.dct [] [])), none, none, none, none]) (S' := S) ?_).trans ?_
  · simp [lc3, ders, biF, bls_false]
  have lc4 : evE (callF tb.tab 600 (k + 2)) (.lc (.cmp .In (.var 8) (.call "next_corners" false [(.var 6)])) (.tup [(.name 6), (.name 8)]) .zip [(.var 3), (.sl (.var 3) (some (.con (.int 1))) none)] [] [5, 6, 8]) [some (.p (.tup [.int 30, .int 30, .tup []])), some (.p (M 0 0)), some (.p (M (X bs) (Y bs))), some (.p (.tup W)), some (.p (.dct [] [])), none, none, none, none] S = .ok (.p (.lst (P.map fun _ => .bl true))) S := by
    refine lc_map (vs := [.p (.tup W), .p (.tup (cutD W (some 1) none))]) (ds := P) (W := []) (by simp [slD]) (by simp [itemsOf, hzip]) rfl _ (fun d hd => ?_) (size1000 (by omega))
    obtain ⟨a, c, b, rfl⟩ := hp d hd
    have e2 := s_next (k := k + 1) (S := S) (a := a) (b := c)
    have ei : cmpD .In (M (a + ox b) (c + oy b)) (.lst [M a (c + 1), M (a + 1) c]) = some true := by
      simp only [cmpD, isIn_M2]
      cases b <;> simp [ox_t, ox_f, oy_t, oy_f]
    simp [lcTurn, e2, ei]
  refine seqR ?_
  simp [lc4, ders, biF, bls_true]
theorem s_need_way {bs : List Bool} (hx : X bs ≤ 30) (hy : Y bs ≤ 30) : run (k + 4) "need_way" [.p (D.tup (wy 0 0 (bs)))] S = .ok (.p .non) S := by
  rw [run, callF_succ (d := d_need_way.df) (by kernel_rfl) rfl]
  have e1 := s_fits (k := k) (S := S) hx hy
  have h1 := atL (x := 0) (y := 0) (bs := bs)
  rw [Int.zero_add, Int.zero_add] at h1
  have h2 : eqD (D.tup (wy 0 0 (bs))) (.tup []) = some false := by
    refine (eqD_nilT (n := 1) (by decide) (fun d hd => ?_)).trans ?_
    · obtain ⟨a, b, rfl, _⟩ := wy_mem hd
      rfl
    · obtain ⟨r, e⟩ := wy_head 0 0 bs
      simp [e]
  simp only [run] at e1 h2
  generalize wy 0 0 bs = W at *
  simp [d_need_way, Dn.df, e1, h1, h2, isiD, pures]
theorem sum_ar : ∀ (bs : List Bool) (x y : Int), ∃ xs : List Int, (pz x y bs).filterMap (fun d => match d with
    | .tup [.tup [.int a, .int b], .tup [.int c, _]] => if c > a then some (D.int b) else none
    | _ => none) = xs.map .int ∧ xs.sum = ar y bs
  | [], x, y => ⟨[], rfl, rfl⟩
  | b :: bs, x, y => by
    obtain ⟨xs, h1, h2⟩ := sum_ar bs (x + ox b) (y + oy b)
    cases b with
    | true =>
      simp only [ox_t] at h1
      refine ⟨y :: xs, ?_, by simp only [List.sum_cons, h2, ar, if_true]⟩
      simp only [pz, List.filterMap_cons, ox_t]
      rw [if_pos (by omega)]
      simp only [h1]
      rfl
    | false =>
      simp only [ox_f] at h1
      refine ⟨xs, ?_, by simp only [h2, ar]; simp⟩
      simp only [pz, List.filterMap_cons, ox_f]
      rw [if_neg (by omega)]
      simp only [h1]
theorem s_area_in {bs : List Bool} (hl : bs.length ≤ 1000) : run (k + 1) "area_in" [.p (D.tup (wy 0 0 (bs)))] S = .ok (.p (.int (ar 0 bs))) S := by
  rw [run, callF_succ (d := d_area_in.df) (by kernel_rfl) rfl]
  obtain ⟨xs, h1, h2⟩ := sum_ar bs 0 0
  have hzip := zip1 bs 0 0
  have hp := fun d => pz_mem (bs := bs) (x := 0) (y := 0) (d := d)
  have hpl := pz_len (bs := bs) (x := 0) (y := 0)
  generalize wy 0 0 bs = W at *
  generalize pz 0 0 bs = P at *
  have lc : evE (callF tb.tab 600 k) (.lc (.ix (.var 2) (.con (.int 1))) (.tup [(.name 2), (.name 3)]) .zip [(.var 0), (.sl (.var 0) (some (.con (.int 1))) none)] [(.cmp .Gt (.ix (.var 3) (.con (.int 0))) (.ix (.var 2) (.con (.int 0))))] [1, 2, 3]) [some (.p (.tup W)), none, none, none] S = .ok (.p (.lst (xs.map .int))) S := by
    rw [← h1]
    refine lc_pure (vs := [.p (.tup W), .p (.tup (cutD W (some 1) none))]) (ds := P) (W := []) (by simp [slD]) (by simp [itemsOf, hzip]) rfl _ (fun d hd => ?_) (size1000 (by omega))
    obtain ⟨a, c, b, rfl⟩ := hp d hd
    have t1 : a < a + 1 := by omega
    cases b
    · simp [lcTurn, atI0, atI1, ox_f]
    · simp [lcTurn, atI0, atI1, ox_t, t1]
  have hs : biSum [.lst (xs.map .int)] = some (.int (ar 0 bs)) := by
    show (intsOf (xs.map .int)).map _ = _
    rw [intsOf_ints, Option.map_some, h2]
  generalize xs.map D.int = Z at *
  simp [d_area_in, Dn.df, lc, ders, biF, hs]
theorem len_le {bs : List Bool} (hx : X bs ≤ 30) (hy : Y bs ≤ 30) : bs.length ≤ 60 := by have := XY bs; omega
theorem s_area_of {bs : List Bool} (hx : X bs ≤ 30) (hy : Y bs ≤ 30) : run (k + 5) "area_of" [.p (D.tup (wy 0 0 (bs)))] S = .ok (.p (.int (ar 0 bs))) S := by
  rw [run, callF_succ (d := d_area_of.df) (by kernel_rfl) rfl]
  have hl := len_le hx hy
  have e1 := s_need_way (k := k) (S := S) hx hy
  have e2 := s_area_in (k := k + 3) (S := S) (bs := bs) (by omega)
  simp only [run] at e1 e2
  generalize wy 0 0 bs = W at *
  simp [d_area_of, Dn.df, e1, e2]
/-- the turns, as neighbors in the row of steps that differ -/
def pb (bs : List Bool) : List D := zipD (bs.map .bl) ((bs.map .bl).drop 1)
theorem pb_tr : ∀ bs : List Bool, ((pb bs).filterMap fun d => match d with
    | .tup [.bl b, .bl c] => if b = c then none else some (D.int 1)
    | _ => none).length = tr bs
  | [] => rfl
  | [b] => rfl
  | b :: c :: bs => by
    have := pb_tr (c :: bs)
    have e : pb (b :: c :: bs) = .tup [.bl b, .bl c] :: pb (c :: bs) := by simp [pb, zipD]
    rw [e, tr, List.filterMap_cons]
    by_cases h : b = c
    · simp only [h, if_true, this]; omega
    · simp only [h, if_false, List.length_cons, this]; omega
theorem eqD_bl {a b : Bool} : eqD (.bl a) (.bl b) = some (decide (a = b)) := by cases a <;> cases b <;> rfl
theorem pb_mem {bs : List Bool} {d : D} (h : d ∈ pb bs) : ∃ b c, d = .tup [.bl b, .bl c] := by
  unfold pb zipD at h
  obtain ⟨⟨p, q⟩, hp, rfl⟩ := List.mem_map.mp h
  have h1 := List.of_mem_zip hp
  obtain ⟨b, _, e1⟩ := List.mem_map.mp h1.1
  obtain ⟨c, _, e2⟩ := List.mem_map.mp (List.mem_of_mem_drop h1.2)
  exact ⟨b, c, by simp only [← e1, ← e2]⟩
theorem pb_len (bs : List Bool) : (pb bs).length ≤ bs.length := by
  unfold pb zipD
  simp
theorem gt_bl : ∀ (bs : List Bool) (x y : Int), (pz x y bs).map (fun d => match d with
    | .tup [.tup [.int a, _], .tup [.int c, _]] => D.bl (decide (a < c))
    | _ => .non) = bs.map .bl
  | [], x, y => rfl
  | b :: bs, x, y => by
    simp only [pz, List.map_cons, gt_bl bs]
    cases b
    · rw [ox_f, decide_eq_false (by omega)]
    · rw [ox_t, decide_eq_true (by omega)]
theorem s_turns_of {bs : List Bool} (hx : X bs ≤ 30) (hy : Y bs ≤ 30) : run (k + 5) "count_turns_of" [.p (D.tup (wy 0 0 (bs)))] S = .ok (.p (.int (tr bs))) S := by
  rw [run, callF_succ (d := d_count_turns_of.df) (by kernel_rfl) rfl]
  have hl := len_le hx hy
  have e1 := s_need_way (k := k) (S := S) hx hy
  have hzip := zip1 bs 0 0
  have hp := fun d => pz_mem (bs := bs) (x := 0) (y := 0) (d := d)
  have hpl := pz_len (bs := bs) (x := 0) (y := 0)
  have hg := gt_bl bs 0 0
  have ht := pb_tr bs
  have hpb : zipD (bs.map .bl) (cutD (bs.map .bl) (some 1) none) = pb bs := by
    rw [show cutD (bs.map D.bl) (some 1) none = (bs.map D.bl).drop 1 from cut_fromG (i := 1)]
    rfl
  have hm := fun d => pb_mem (bs := bs) (d := d)
  have hbl := pb_len bs
  simp only [run] at e1
  generalize wy 0 0 bs = W at *
  generalize pz 0 0 bs = P at *
  have lc1 : evE (callF tb.tab 600 (k + 4)) (.lc (.cmp .Gt (.ix (.var 4) (.con (.int 0))) (.ix (.var 3) (.con (.int 0)))) (.tup [(.name 3), (.name 4)]) .zip [(.var 0), (.sl (.var 0) (some (.con (.int 1))) none)] [] [2, 3, 4]) [some (.p (.tup W)), none, none, none, none] S = .ok (.p (.lst (bs.map .bl))) S := by
    rw [← hg]
    refine lc_map (vs := [.p (.tup W), .p (.tup (cutD W (some 1) none))]) (ds := P) (W := []) (by simp [slD]) (by simp [itemsOf, hzip]) rfl _ (fun d hd => ?_) (size1000 (by omega))
    obtain ⟨a, c, b, rfl⟩ := hp d hd
    simp [lcTurn, atI0]
  generalize bs.map D.bl = Z at *
  generalize pb bs = Q at *
  have lc2 : evE (callF tb.tab 600 (k + 4)) (.lc (.con (.int 1)) (.tup [(.name 3), (.name 4)]) .zip [(.var 1), (.sl (.var 1) (some (.con (.int 1))) none)] [(.cmp .NotEq (.var 3) (.var 4))] [2, 3, 4]) [some (.p (.tup W)), some (.p (.lst Z)), none, none, none] S = .ok (.p (.lst (Q.filterMap fun d => match d with
    | .tup [.bl b, .bl c] => if b = c then none else some (D.int 1)
    | _ => none))) S := by
    refine lc_pure (vs := [.p (.lst Z), .p (.lst (cutD Z (some 1) none))]) (ds := Q) (W := []) (by simp [slD]) (by simp [itemsOf, hpb]) rfl _ (fun d hd => ?_) (size1000 (by omega))
    obtain ⟨b, c, rfl⟩ := hm d hd
    by_cases h : b = c <;> simp [lcTurn, eqD_bl, h]
  generalize (List.filterMap _ _) = V at *
  have hs : biLen [.lst V] = some (.int (tr bs)) := by
    show some (D.int _) = _
    rw [ht]
  simp [d_count_turns_of, Dn.df, e1, lc1, lc2, ders, biF, hs]
end Lk34

set_option Elab.async false
set_option linter.all false
set_option maxRecDepth 100000
set_option maxHeartbeats 4000000
namespace Lk34
open PySem DV
variable {k : Nat} {S : Store}
/-! ### walks of the law's own functions -/
theorem larea_loop {call : CallF} (w0 : Option Sv) : ∀ (bs : List Bool) (x y acc : Int) (o1 o2 : Option Sv), ∃ p1 p2, forL (.tup [.name 2, .name 3]) (evB call 600 [.asg (.name 1) (.bin .Add (.var 1) (.ife (.cmp .Eq (.ix (.var 3) (.con (.int 1))) (.ix (.var 2) (.con (.int 1)))) (.ix (.var 2) (.con (.int 1))) (.con (.int 0))))]) [] (pz x y bs) [w0, some (.p (.int acc)), o1, o2] S = .nx [w0, some (.p (.int (acc + ar y bs))), p1, p2] S
  | [], x, y, acc, o1, o2 => ⟨o1, o2, by simp [pz, ar, forL]⟩
  | b :: bs, x, y, acc, o1, o2 => by
    obtain ⟨p1, p2, e⟩ := larea_loop (call := call) w0 bs (x + ox b) (y + oy b) (acc + if b = true then y else 0) (some (.p (M x y))) (some (.p (M (x + ox b) (y + oy b))))
    refine ⟨p1, p2, ?_⟩
    rw [pz, forL, if_pos watched_nil]
    have hb : evB call 600 [.asg (.name 1) (.bin .Add (.var 1) (.ife (.cmp .Eq (.ix (.var 3) (.con (.int 1))) (.ix (.var 2) (.con (.int 1)))) (.ix (.var 2) (.con (.int 1))) (.con (.int 0))))] [w0, some (.p (.int acc)), some (.p (M x y)), some (.p (M (x + ox b) (y + oy b)))] S = .nx [w0, some (.p (.int (acc + if b = true then y else 0))), some (.p (M x y)), some (.p (M (x + ox b) (y + oy b)))] S := by
      cases b
      · have t1 : ¬ y + 1 = y := by omega
        simp [atI1, eqD_int, oy_f, t1]
      · simp [atI1, eqD_int, oy_t]
    simp only [bindT_tup, bindTs_cons, bindT_name, bindTs_nil, List.set_cons_succ, List.set_cons_zero, hb, SR.turn_nx]
    rw [e, ar, Int.add_assoc]
theorem s_larea {bs : List Bool} (hl : bs.length ≤ 1000) : run (k + 1) "_law_area" [.p (D.tup (wy 0 0 (bs)))] S = .ok (.p (.int (ar 0 bs))) S := by
  obtain ⟨p1, p2, e⟩ := larea_loop (S := S) (call := callF tb.tab 600 k) (some (.p (D.tup (wy 0 0 (bs))))) bs 0 0 0 none none
  have hzip := zip1 bs 0 0
  generalize wy 0 0 bs = W at *
  generalize pz 0 0 bs = P at *
  rw [Int.zero_add] at e
  have e2 : evB (callF tb.tab 600 k) 600 d__law_area.df.body [some (.p (.tup W)), none, none, none] S = .ret (.p (.int (ar 0 bs))) S := by
    refine (seqE (ρ' := [some (.p (.tup W)), some (.p (.int 0)), none, none]) (S' := S) (by simp)).trans ?_
    refine (seqE (ρ' := [some (.p (.tup W)), some (.p (.int (ar 0 bs))), p1, p2]) (S' := S) ?_).trans ?_
    · rw [evS_for (vs := [.p (.tup W), .p (.tup (cutD W (some 1) none))]) (ds := P) (W := []) (S1 := S) (by simp [slD]) (by simp [itemsOf, hzip])]
      exact e
    · simp
  have r := run_ret (T := tb.tab) (wf := 600) (k := k) (x := "_law_area") (d := d__law_area.df) (vs := [.p (.tup W)]) (S := S) (by kernel_rfl) rfl e2
  rw [List.take_length] at r
  exact r
theorem pz2_len : ∀ {bs : List Bool} {x y : Int}, (pz2 x y bs).length ≤ bs.length
  | [], _, _ => Nat.le_refl _
  | [b], _, _ => by simp [pz2]
  | b :: c :: bs, x, y => by
    have := pz2_len (bs := c :: bs) (x := x + ox b) (y := y + oy b)
    simp only [pz2, List.length_cons] at this ⊢
    omega
theorem pz2_mem : ∀ {bs : List Bool} {x y : Int} {d : D}, d ∈ pz2 x y bs → ∃ a f b c, d = .tup [M a f, M (a + ox b + ox c) (f + oy b + oy c)]
  | [], x, y, d, h => by cases h
  | [b], x, y, d, h => by cases h
  | b :: c :: bs, x, y, d, h => by
    simp only [pz2, List.mem_cons] at h
    rcases h with rfl | h
    · exact ⟨x, y, b, c, rfl⟩
    · exact pz2_mem h
def gT : D → Option D
  | .tup [.tup [.int a, .int b], .tup [.int c, .int d]] => if a ≠ c ∧ b ≠ d then some (D.int 1) else none
  | _ => none
theorem gT_M (a b c d : Int) : gT (.tup [M a b, M c d]) = if a ≠ c ∧ b ≠ d then some (D.int 1) else none := rfl
theorem gT_tr : ∀ (bs : List Bool) (x y : Int), ((pz2 x y bs).filterMap gT).length = tr bs
  | [], x, y => rfl
  | [b], x, y => rfl
  | b :: c :: bs, x, y => by
    have := gT_tr (c :: bs) (x + ox b) (y + oy b)
    rw [pz2, tr, List.filterMap_cons, gT_M]
    cases b <;> cases c
    · rw [if_neg (by simp only [ox_f]; omega)]; simp only [this]; simp
    · rw [if_pos (by simp only [ox_f, ox_t, oy_f, oy_t]; omega)]; simp only [List.length_cons, this]; simp; omega
    · rw [if_pos (by simp only [ox_f, ox_t, oy_f, oy_t]; omega)]; simp only [List.length_cons, this]; simp; omega
    · rw [if_neg (by simp only [oy_t]; omega)]; simp only [this]; simp
theorem s_lturns {bs : List Bool} (hl : bs.length ≤ 1000) : run (k + 1) "_law_turns" [.p (D.tup (wy 0 0 (bs)))] S = .ok (.p (.int (tr bs))) S := by
  rw [run, callF_succ (d := d__law_turns.df) (by kernel_rfl) rfl]
  have hzip := zip2 bs 0 0
  have hp := fun d => pz2_mem (bs := bs) (x := 0) (y := 0) (d := d)
  have hpl := pz2_len (bs := bs) (x := 0) (y := 0)
  have hg := gT_tr bs 0 0
  generalize wy 0 0 bs = W at *
  generalize pz2 0 0 bs = P at *
  have lc : evE (callF tb.tab 600 k) (.lc (.con (.int 1)) (.tup [(.name 2), (.name 3)]) .zip [(.var 0), (.sl (.var 0) (some (.con (.int 2))) none)] [(.and (.cmp .NotEq (.ix (.var 2) (.con (.int 0))) (.ix (.var 3) (.con (.int 0)))) (.cmp .NotEq (.ix (.var 2) (.con (.int 1))) (.ix (.var 3) (.con (.int 1)))))] [1, 2, 3]) [some (.p (.tup W)), none, none, none] S = .ok (.p (.lst (P.filterMap gT))) S := by
    refine lc_pure (vs := [.p (.tup W), .p (.tup (cutD W (some 2) none))]) (ds := P) (W := []) (by simp [slD]) (by simp [itemsOf, hzip]) rfl _ (fun d hd => ?_) (size1000 (by omega))
    obtain ⟨a, f, b, c, rfl⟩ := hp d hd
    rw [gT_M]
    generalize a + ox b + ox c = a'
    generalize f + oy b + oy c = f'
    by_cases h1 : a = a'
    · simp [lcTurn, atI0, atI1, eqD_int, h1]
    · by_cases h2 : f = f'
      · simp [lcTurn, atI0, atI1, eqD_int, h1, h2]
      · simp [lcTurn, atI0, atI1, eqD_int, h1, h2]
  generalize (P.filterMap gT) = V at *
  have hs : biLen [.lst V] = some (.int (tr bs)) := by
    show some (D.int _) = _
    rw [hg]
  simp [d__law_turns, Dn.df, lc, ders, biF, hs]
theorem s_isnum {x lo hi : Int} : run (k + 2) "_law_is_number" [.p (.int x), .p (.int lo), .p (.int hi)] S = .ok (.p (.bl (decide (lo ≤ x) && decide (x ≤ hi)))) S := by
  rw [run, callF_succ (d := d__law_is_number.df) (by kernel_rfl) rfl]
  have e := s_sort (wf := 600) (k := k) lk_sort (.int x) rfl S
  by_cases h : lo ≤ x <;> simp [d__law_is_number, Dn.df, e, srt, eqD_int, h]
theorem s_corner {a b w h : Int} (h1 : 0 ≤ a) (h2 : a ≤ w) (h3 : 0 ≤ b) (h4 : b ≤ h) : run (k + 3) "_law_is_corner" [.p (M a b), .p (.int w), .p (.int h)] S = .ok (.p (.bl true)) S := by
  rw [run, callF_succ (d := d__law_is_corner.df) (by kernel_rfl) rfl]
  have e1 := s_isnum (k := k) (S := S) (x := a) (lo := 0) (hi := w)
  have e2 := s_isnum (k := k) (S := S) (x := b) (lo := 0) (hi := h)
  rw [show (decide (0 ≤ a) && decide (a ≤ w)) = true by simp; omega] at e1
  rw [show (decide (0 ≤ b) && decide (b ≤ h)) = true by simp; omega] at e2
  simp only [run] at e1 e2
  simp [d__law_is_corner, Dn.df, isiD, ders, biF, biLen, eqD_int, atI0, atI1, e1, e2]
theorem fm_none {α : Type} {xs : List D} {g : D → Option D} (h : ∀ d ∈ xs, g d = none) : xs.filterMap g = [] := by
  rw [List.filterMap_eq_nil_iff]
  exact h
theorem s_isway {bs : List Bool} {w h : Nat} (hx : X bs = w) (hy : Y bs = h) (hwh : w + h ≤ 900) : run (k + 4) "_law_is_way" [.p (.tup [.int w, .int h, .tup []]), .p (M 0 0), .p (M w h), .p (D.tup (wy 0 0 (bs)))] S = .ok (.p (.bl true)) S := by
  have hl := XY bs
  have hz : (wy 0 0 bs).length ≤ sizeLine := size1000 (by rw [wy_len]; omega)
  have h0 := at0 (x := 0) (y := 0) (bs := bs)
  have h1 := atL (x := 0) (y := 0) (bs := bs)
  rw [hx, hy, Int.zero_add, Int.zero_add] at h1
  have hm := fun d => wy_mem (bs := bs) (x := 0) (y := 0) (d := d)
  rw [hx, hy] at hm
  have hzip := zip1 bs 0 0
  have a2 : ∀ xs : List D, L2.atI [D.int w, .int h, .tup xs] 2 = some (.tup xs) := fun xs => rfl
  have hp := fun d => pz_mem (bs := bs) (x := 0) (y := 0) (d := d)
  have hpl := pz_len (bs := bs) (x := 0) (y := 0)
  have h2 : eqD (D.tup (wy 0 0 (bs))) (.tup []) = some false := by
    refine (eqD_nilT (n := 1) (by decide) (fun d hd => ?_)).trans ?_
    · obtain ⟨a, b, rfl, _⟩ := wy_mem hd
      rfl
    · obtain ⟨r, e⟩ := wy_head 0 0 bs
      simp [e]
  have hst : ∃ Z : List D, (pz 0 0 bs).map (fun d => match d with
    | .tup [.tup [.int a, .int b], .tup [.int c, .int d]] => M (c - a) (d - b)
    | _ => .non) = Z ∧ ∀ d ∈ Z, d = M 0 1 ∨ d = M 1 0 := by
    refine ⟨_, rfl, fun d hd => ?_⟩
    obtain ⟨e, he, rfl⟩ := List.mem_map.mp hd
    obtain ⟨a, c, b, rfl⟩ := hp e he
    dsimp only
    cases b
    · left; simp only [ox_f, oy_f]; rw [show a + 0 - a = 0 by omega, show c + 1 - c = 1 by omega]
    · right; simp only [ox_t, oy_t]; rw [show a + 1 - a = 1 by omega, show c + 0 - c = 0 by omega]
  obtain ⟨Z, hZ, hZ2⟩ := hst
  have hZl : Z.length = bs.length := by rw [← hZ, List.length_map, hpl]
  generalize wy 0 0 bs = W at *
  generalize pz 0 0 bs = P at *
  have enil : eqD (.lst []) (.lst []) = some true := rfl
  have e : evB (callF tb.tab 600 (k + 3)) 600 d__law_is_way.df.body [some (.p (.tup [.int w, .int h, .tup []])), some (.p (M 0 0)), some (.p (M w h)), some (.p (.tup W)), none, none, none, none, none] S = .ret (.p (.bl true)) S := ?_
  · have r := run_ret (T := tb.tab) (wf := 600) (k := k + 3) (x := "_law_is_way") (d := d__law_is_way.df) (vs := [.p (.tup [.int w, .int h, .tup []]), .p (M 0 0), .p (M w h), .p (.tup W)]) (S := S) (by kernel_rfl) rfl e
    rw [List.take_length] at r
    exact r
  have lc1 : evE (callF tb.tab 600 (k + 3)) (.lc (.var 6) (.name 6) .seq [(.var 3)] [(.or (.not (.call "_law_is_corner" false [(.var 6), (.ix (.var 0) (.con (.int 0))), (.ix (.var 0) (.con (.int 1)))])) (.cmp .In (.var 6) (.ix (.var 0) (.con (.int 2)))))] [5, 6]) [some (.p (.tup [.int w, .int h, .tup []])), some (.p (M 0 0)), some (.p (M w h)), some (.p (.tup W)), none, none, none, none, none] S = .ok (.p (.lst [])) S := by
    refine (lc_pure (vs := [.p (.tup W)]) (ds := W) (W := []) (by simp) rfl rfl (fun _ => none) (fun d hd => ?_) hz).trans ?_
    · obtain ⟨a, b, rfl, q1, q2, q3, q4⟩ := hm d hd
      have e2 := s_corner (k := k) (S := S) (a := a) (b := b) (w := w) (h := h) (by omega) (by omega) (by omega) (by omega)
      have ei : cmpD .In (M a b) (.tup []) = some false := by simp only [cmpD, isIn_M0]
      simp only [run] at e2
      simp [lcTurn, atI0, atI1, a2, e2, ei]
    · rw [fm_none (α := D) fun _ _ => rfl]
  refine (seqE (ρ' := [some (.p (.tup [.int w, .int h, .tup []])), some (.p (M 0 0)), some (.p (M w h)), some (.p (.tup W)), none, none, none, none, none]) (S' := S) ?_).trans ?_
  · simp [isiD, h2, lc1, enil, pures]
  have lc2 : evE (callF tb.tab 600 (k + 3)) (.lc (.tup [(.bin .Sub (.ix (.var 7) (.con (.int 0))) (.ix (.var 6) (.con (.int 0)))), (.bin .Sub (.ix (.var 7) (.con (.int 1))) (.ix (.var 6) (.con (.int 1))))]) (.tup [(.name 6), (.name 7)]) .zip [(.var 3), (.sl (.var 3) (some (.con (.int 1))) none)] [] [5, 6, 7]) [some (.p (.tup [.int w, .int h, .tup []])), some (.p (M 0 0)), some (.p (M w h)), some (.p (.tup W)), none, none, none, none, none] S = .ok (.p (.lst Z)) S := by
    rw [← hZ]
    refine lc_map (vs := [.p (.tup W), .p (.tup (cutD W (some 1) none))]) (ds := P) (W := []) (by simp [slD]) (by simp [itemsOf, hzip]) rfl _ (fun d hd => ?_) (size1000 (by omega))
    obtain ⟨a, c, b, rfl⟩ := hp d hd
    simp [lcTurn, atI0, atI1, pures]
  refine (seqE (ρ' := [some (.p (.tup [.int w, .int h, .tup []])), some (.p (M 0 0)), some (.p (M w h)), some (.p (.tup W)), some (.p (.lst Z)), none, none, none, none]) (S' := S) ?_).trans ?_
  · simp [lc2]
  have lc3 : evE (callF tb.tab 600 (k + 3)) (.lc (.var 8) (.name 8) .seq [(.var 4)] [(.cmp .NotIn (.var 8) (.tup [(.tup [(.con (.int 0)), (.con (.int 1))]), (.tup [(.con (.int 1)), (.con (.int 0))])]))] [5, 8]) [some (.p (.tup [.int w, .int h, .tup []])), some (.p (M 0 0)), some (.p (M w h)), some (.p (.tup W)), some (.p (.lst Z)), none, none, none, none] S = .ok (.p (.lst [])) S := by
    refine (lc_pure (vs := [.p (.lst Z)]) (ds := Z) (W := []) (by simp) rfl rfl (fun _ => none) (fun d hd => ?_) (size1000 (by omega))).trans ?_
    · have ei : ∀ d, d = M 0 1 ∨ d = M 1 0 → cmpD .NotIn d (.tup [M 0 1, M 1 0]) = some false := by
        rintro d (rfl | rfl) <;> simp only [cmpD, isIn_MT] <;> rfl
      simp [lcTurn, pures, ei d (hZ2 d hd)]
    · rw [fm_none (α := D) fun _ _ => rfl]
  refine seqR ?_
  simp [h0, h1, eqD_M, lc3, enil, pures]
end Lk34

set_option Elab.async false
set_option linter.all false
set_option maxRecDepth 100000
set_option maxHeartbeats 4000000
namespace Lk34
open PySem DV
variable {k : Nat} {S : Store}
/-! ### choices -/
def CI (n : Nat) (s : Int) : Int := if 0 ≤ s then (Cb n s.toNat : Int) else 0
theorem CI_nat (n m : Nat) : CI n (m : Int) = (Cb n m : Int) := by
  unfold CI
  rw [if_pos (by omega), Int.toNat_natCast]
theorem CI_out {n : Nat} {s : Int} (h : ¬ (0 ≤ s ∧ s ≤ n)) : CI n s = 0 := by
  unfold CI
  split
  · rw [Cb_zero (by omega)]; rfl
  · rfl
theorem Cb_le : ∀ n k : Nat, Cb n k ≤ 2 ^ n
  | 0, 0 => Nat.le_refl _
  | 0, k + 1 => by simp [Cb]
  | n + 1, 0 => by
    simp only [Cb]
    exact Nat.one_le_two_pow
  | n + 1, k + 1 => by
    have i1 := Cb_le n k
    have i2 := Cb_le n (k + 1)
    show Cb n k + Cb n (k + 1) ≤ 2 ^ (n + 1)
    rw [Nat.pow_succ]
    omega
theorem CI_bd {n : Nat} (h : n ≤ 30) (s : Int) : 0 ≤ CI n s ∧ CI n s ≤ 1073741824 := by
  unfold CI
  split
  · have i1 := Cb_le n s.toNat
    have i2 : 2 ^ n ≤ 2 ^ 30 := Nat.pow_le_pow_right (by decide) h
    have i3 : (2 : Nat) ^ 30 = 1073741824 := by decide
    omega
  · decide
abbrev c1 : List DS := [.asg (.name 2) (.bin .FloorDiv (.bin .Mult (.var 2) (.bin .Sub (.var 0) (.var 3))) (.bin .Add (.var 3) (.con (.int 1))))]
theorem Cb_next (n j : Nat) : ((Cb n j : Int) * ((n : Int) - (j : Int))).fdiv ((j : Int) + 1) = (Cb n (j + 1) : Int) := by
  have := Cb_mul n j
  have e : (Cb n j : Int) * ((n : Int) - (j : Int)) = ((j : Int) + 1) * (Cb n (j + 1) : Int) := by grind
  rw [e, Int.mul_fdiv_cancel_left _ (by omega)]
theorem s_chosen {n : Nat} {s : Int} (hn : n ≤ 1000) (hs : s ≤ 1000) : run (k + 1) "chosen" [.p (.int n), .p (.int s)] S = .ok (.p (.int (CI n s))) S := by
  have e : ∃ o, evB (callF tb.tab 600 k) 600 d_chosen.df.body [some (.p (.int n)), some (.p (.int s)), none, none] S = .ret o S ∧ o = .p (.int (CI n s)) := by
    by_cases h : 0 ≤ s ∧ s ≤ n
    · obtain ⟨m, rfl⟩ := Int.eq_ofNat_of_zero_le h.1
      have hm : m ≤ n := by omega
      refine ⟨_, (seqE (ρ' := [some (.p (.int n)), some (.p (.int m)), some (.p (.int 1)), none]) (S' := S) (by simp [hm])).trans ?_, rfl⟩
      have hl : ∃ x, evS (callF tb.tab 600 k) 600 (.for (.name 3) .rng [(.ife (.var 2) (.var 1) (.con (.int 0)))] c1) [some (.p (.int n)), some (.p (.int m)), some (.p (.int 1)), none] S = .nx [some (.p (.int n)), some (.p (.int m)), some (.p (.int (Cb n m : Int))), x] S := by
        rw [evS_for (vs := [.p (.int m)]) (S1 := S) (ds := (List.range m).map fun m => D.int (m : Nat)) (W := []) (by simp [truD]) (items_rng (n := m) (by omega))]
        generalize hr : forL _ _ _ _ _ _ = res
        obtain ⟨ρ', S', rfl, rfl, x, rfl⟩ := all_of hr (fun j ρ St => St = S ∧ ∃ x, ρ = [some (.p (.int n)), some (.p (.int m)), some (.p (.int (Cb n j : Int))), x]) ⟨rfl, none, by rw [Cb0]; rfl⟩ (fun _ _ _ _ => rfl) (fun j hj ρ St hI => by
          obtain ⟨rfl, x, rfl⟩ := hI
          rw [List.length_map, List.length_range] at hj
          have hd : divOK ((j : Int) + 1) := divOK_of (by omega) (by omega)
          have hm : mulOK (Cb n j : Int) ((n : Int) - (j : Int)) := mulS' (small_of (by omega) (by omega))
          refine ⟨[some (.p (.int n)), some (.p (.int m)), some (.p (.int (Cb n j : Int))), some (.p (.int (j : Nat)))], _, St, by simp, .inl (?_ : _ = SR.nx [some (.p (.int n)), some (.p (.int m)), some (.p (.int (Cb n (j + 1) : Int))), some (.p (.int (j : Nat)))] St), rfl, _, rfl⟩
          simp [binD_mul hm, binD_div hd, Cb_next])
        rw [List.length_map, List.length_range]
        exact ⟨x, rfl⟩
      obtain ⟨x, hl⟩ := hl
      refine (seqE hl).trans ?_
      simp [CI_nat]
    · refine ⟨_, (seqE (ρ' := [some (.p (.int n)), some (.p (.int s)), some (.p (.int 0)), none]) (S' := S) ?_).trans ?_, rfl⟩
      · by_cases h0 : 0 ≤ s
        · have : ¬ s ≤ n := fun z => h ⟨h0, z⟩
          simp [h0, this]
        · simp [h0]
      · have hl : evS (callF tb.tab 600 k) 600 (.for (.name 3) .rng [(.ife (.var 2) (.var 1) (.con (.int 0)))] c1) [some (.p (.int n)), some (.p (.int s)), some (.p (.int 0)), none] S = .nx [some (.p (.int n)), some (.p (.int s)), some (.p (.int 0)), none] S := by
          rw [evS_for (vs := [.p (.int 0)]) (S1 := S) (ds := []) (W := []) (by simp [truD]) (items_rng (n := 0) (by decide))]
          rw [forL, if_pos watched_nil]
        refine (seqE hl).trans ?_
        simp [CI_out h]
  obtain ⟨o, e, rfl⟩ := e
  have r := run_ret (T := tb.tab) (wf := 600) (k := k) (x := "chosen") (d := d_chosen.df) (vs := [.p (.int n), .p (.int s)]) (S := S) (by kernel_rfl) rfl e
  rw [List.take_length] at r
  exact r
/-- a row of Pascal's triangle -/
def PR (t : Nat) : List Int := (List.range (t + 1)).map fun i => (Cb t i : Int)
theorem PR_len (t : Nat) : (PR t).length = t + 1 := by simp [PR]
theorem PR_get {t i : Nat} (h : i < (PR t).length) : (PR t)[i] = (Cb t i : Int) := by simp [PR]
theorem PR_succ (t : Nat) : List.zipWith (· + ·) (PR t ++ [0]) (0 :: PR t) = PR (t + 1) := by
  refine List.ext_getElem (by simp [PR_len]) fun i h1 h2 => ?_
  have hi : i < t + 2 := by simpa [PR_len] using h1
  rw [List.getElem_zipWith, PR_get]
  have ha : ∀ h, (PR t ++ [0])[i]'h = (Cb t i : Int) := fun h => by
    rw [List.getElem_append]
    split
    · rw [PR_get]
    · rename_i hn
      rw [PR_len] at hn
      rw [Cb_zero (by omega)]
      simp
  rw [ha]
  cases i with
  | zero => simp [Cb0]
  | succ i =>
    rw [List.getElem_cons_succ, PR_get]
    show _ = ((Cb t i + Cb t (i + 1) : Nat) : Int)
    omega
theorem zip_sum : ∀ xs ys : List Int, (zipD (xs.map .int) (ys.map .int)).map (fun d => match d with
    | .tup [.int a, .int b] => D.int (a + b)
    | _ => .non) = (List.zipWith (· + ·) xs ys).map .int
  | [], _ => rfl
  | _ :: _, [] => rfl
  | x :: xs, y :: ys => by
    have := zip_sum xs ys
    simp only [zipD] at this ⊢
    simp only [List.map_cons, List.zip_cons_cons, List.zipWith_cons_cons, this]
theorem zipI_mem {xs ys : List Int} {d : D} (h : d ∈ zipD (xs.map .int) (ys.map .int)) : ∃ a b : Int, d = .tup [.int a, .int b] := by
  unfold zipD at h
  obtain ⟨⟨p, q⟩, hp, rfl⟩ := List.mem_map.mp h
  have h1 := List.of_mem_zip hp
  obtain ⟨b, _, e1⟩ := List.mem_map.mp h1.1
  obtain ⟨c, _, e2⟩ := List.mem_map.mp h1.2
  exact ⟨b, c, by simp only [← e1, ← e2]⟩
theorem zipI_len {xs ys : List D} : (zipD xs ys).length ≤ xs.length := by
  unfold zipD
  simp
  omega
abbrev c2 : List DS := [.asg (.name 2) (.lc (.bin .Add (.var 5) (.var 6)) (.tup [(.name 5), (.name 6)]) .zip [(.bin .Add (.var 2) (.lst [(.con (.int 0))])), (.bin .Add (.lst [(.con (.int 0))]) (.var 2))] [] [4, 5, 6])]
theorem s_lchosen {n : Nat} {s : Int} (hn : n ≤ 1000) : run (k + 1) "_law_chosen" [.p (.int n), .p (.int s)] S = .ok (.p (.int (CI n s))) S := by
  have e : evB (callF tb.tab 600 k) 600 d__law_chosen.df.body [some (.p (.int n)), some (.p (.int s)), none, none, none, none, none] S = .ret (.p (.int (CI n s))) S := by
    refine (seqE (ρ' := [some (.p (.int n)), some (.p (.int s)), some (.p (D.lst (List.map D.int (PR 0)))), none, none, none, none]) (S' := S) (by simp [pures, PR, Cb])).trans ?_
    have hl : ∃ x, evS (callF tb.tab 600 k) 600 (.for (.name 3) .rng [(.var 0)] c2) [some (.p (.int n)), some (.p (.int s)), some (.p (D.lst (List.map D.int (PR 0)))), none, none, none, none] S = .nx [some (.p (.int n)), some (.p (.int s)), some (.p (D.lst (List.map D.int (PR n)))), x, none, none, none] S := by
      rw [evS_for (vs := [.p (.int n)]) (S1 := S) (ds := (List.range n).map fun m => D.int (m : Nat)) (W := []) (by simp) (items_rng (n := n) (by omega))]
      generalize hr : forL _ _ _ _ _ _ = res
      obtain ⟨ρ', S', rfl, rfl, x, rfl⟩ := all_of hr (fun j ρ St => St = S ∧ ∃ x, ρ = [some (.p (.int n)), some (.p (.int s)), some (.p (D.lst (List.map D.int (PR j)))), x, none, none, none]) ⟨rfl, none, rfl⟩ (fun _ _ _ _ => rfl) (fun j hj ρ St hI => by
        obtain ⟨rfl, x, rfl⟩ := hI
        rw [List.length_map, List.length_range] at hj
        have pl := PR_len j
        have ps := PR_succ j
        refine ⟨[some (.p (.int n)), some (.p (.int s)), some (.p (D.lst (List.map D.int (PR j)))), some (.p (.int (j : Nat))), none, none, none], _, St, by simp, .inl (?_ : _ = SR.nx [some (.p (.int n)), some (.p (.int s)), some (.p (D.lst (List.map D.int (PR (j + 1))))), some (.p (.int (j : Nat))), none, none, none] St), rfl, _, rfl⟩
        rw [← ps]
        generalize PR j = xs at *
        have b1 : binD .Add (.lst (xs.map .int)) (.lst [.int 0]) = some (D.lst (List.map D.int (xs ++ [0]))) := by
          rw [binD_catL (size1000 (by simp; omega))]
          simp
        have b2 : binD .Add (.lst [.int 0]) (.lst (xs.map .int)) = some (D.lst (List.map D.int (0 :: xs))) := by
          rw [binD_catL (size1000 (by simp; omega))]
          simp
        have lc : evE (callF tb.tab 600 k) (.lc (.bin .Add (.var 5) (.var 6)) (.tup [(.name 5), (.name 6)]) .zip [(.bin .Add (.var 2) (.lst [(.con (.int 0))])), (.bin .Add (.lst [(.con (.int 0))]) (.var 2))] [] [4, 5, 6]) [some (.p (.int n)), some (.p (.int s)), some (.p (D.lst (List.map D.int (xs)))), some (.p (.int (j : Nat))), none, none, none] St = .ok (.p (D.lst (List.map D.int (List.zipWith (· + ·) (xs ++ [0]) (0 :: xs))))) St := by
          rw [show (D.lst (List.map D.int (List.zipWith (· + ·) (xs ++ [0]) (0 :: xs)))) = D.lst _ from congrArg D.lst (zip_sum (xs ++ [0]) (0 :: xs)).symm]
          refine lc_map (k := .zip) (S := St) (vs := [.p (D.lst (List.map D.int (xs ++ [0]))), .p (D.lst (List.map D.int (0 :: xs)))]) (ds := zipD ((xs ++ [0]).map .int) ((0 :: xs).map .int)) (W := []) ?_ (by rfl) rfl _ (fun d hd => ?_) (size1000 (Nat.le_trans zipI_len (by simp; omega)))
          · generalize hA : D.lst ((xs ++ [0]).map .int) = A at *
            generalize hB : D.lst ((0 :: xs).map .int) = B at *
            generalize hC : D.lst (xs.map .int) = C at *
            simp [b1, b2, pures]
          · obtain ⟨a, b, rfl⟩ := zipI_mem hd
            simp [lcTurn]
        generalize List.zipWith (· + ·) (xs ++ [0]) (0 :: xs) = ys at *
        simp only [evB_cons, evB_nil, evS_asg, lc, R.st_ok, bindT_name, SR.of_some, SR.seq_nx, List.set_cons_succ, List.set_cons_zero])
      rw [List.length_map, List.length_range]
      exact ⟨x, rfl⟩
    obtain ⟨x, hl⟩ := hl
    refine (seqE hl).trans ?_
    by_cases h : 0 ≤ s ∧ s ≤ n
    · obtain ⟨m, rfl⟩ := Int.eq_ofNat_of_zero_le h.1
      have hm : m ≤ n := by omega
      have ha : L2.atI ((PR n).map D.int) (m : Int) = some (D.int (Cb n m : Int)) := by
        rw [at_ng (by rw [PR_len]; omega), ng_eq (by rw [PR_len]; omega), PR_get]
      generalize (PR n).map D.int = A at *
      simp [hm, ha, CI_nat]
    · rw [CI_out h]
      generalize (PR n).map D.int = A at *
      by_cases h0 : 0 ≤ s
      · have : ¬ s ≤ n := fun z => h ⟨h0, z⟩
        simp [h0, this]
      · simp [h0]
  have r := run_ret (T := tb.tab) (wf := 600) (k := k) (x := "_law_chosen") (d := d__law_chosen.df) (vs := [.p (.int n), .p (.int s)]) (S := S) (by kernel_rfl) rfl e
  rw [List.take_length] at r
  exact r
theorem s_need {x lo hi : Int} (h1 : lo ≤ x) (h2 : x ≤ hi) : run (k + 2) "need_whole" [.p (.int x), .p (.int lo), .p (.int hi)] S = .ok (.p .non) S := by
  rw [run, callF_succ (d := d_need_whole.df) (by kernel_rfl) rfl]
  have e := g_is_whole (T := tb.tab) (wf := 600) (k := k) (S := S) lk_whole (.int x) lo hi rfl
  simp [wh, h1, h2] at e
  simp [d_need_whole, Dn.df, e]
theorem s_sides {w h : Nat} (h1 : w ≤ 30) (h2 : h ≤ 30) : run (k + 3) "need_sides" [.p (.int w), .p (.int h)] S = .ok (.p .non) S := by
  rw [run, callF_succ (d := d_need_sides.df) (by kernel_rfl) rfl]
  have e1 := s_need (k := k) (S := S) (x := w) (lo := 0) (hi := 30) (by omega) (by omega)
  have e2 := s_need (k := k) (S := S) (x := h) (lo := 0) (hi := 30) (by omega) (by omega)
  simp only [run] at e1 e2
  simp [d_need_sides, Dn.df, e1, e2]
def CT (w h t : Nat) : Int := if w = 0 ∨ h = 0 then (if t = 0 then 1 else 0) else
  CI (w - 1) ((t / 2 : Nat) : Int) * CI (h - 1) (((t + 1) / 2 : Nat) - 1 : Int) + CI (h - 1) ((t / 2 : Nat) : Int) * CI (w - 1) (((t + 1) / 2 : Nat) - 1 : Int)
theorem fdiv2n (t : Nat) : ((t : Int)).fdiv 2 = ((t / 2 : Nat) : Int) := by
  rw [Int.fdiv_eq_ediv_of_nonneg _ (by decide)]
  omega
theorem s_cturns {w h t : Nat} (h1 : w ≤ 30) (h2 : h ≤ 30) (h3 : t ≤ 60) : run (k + 4) "count_turns" [.p (.int w), .p (.int h), .p (.int t)] S = .ok (.p (.int (CT w h t))) S := by
  have e1 := s_sides (k := k) (S := S) h1 h2
  have e2 := s_need (k := k + 1) (S := S) (x := t) (lo := 0) (hi := 60) (by omega) (by omega)
  simp only [run] at e1 e2
  rw [run, callF_succ (d := d_count_turns.df) (by kernel_rfl) rfl]
  have z0 : ((0 : Nat) : Int) = 0 := rfl
  by_cases hw : w = 0
  · subst hw
    simp only [z0] at e1 e2
    by_cases ht : t = 0
    · subst ht
      simp only [z0] at e1 e2
      simp [d_count_turns, Dn.df, e1, e2, eqD_int, CT]
    · have ht' : ¬ (t : Int) = 0 := by omega
      simp [d_count_turns, Dn.df, e1, e2, eqD_int, CT, ht, ht']
  · have hw' : ¬ (w : Int) = 0 := by omega
    by_cases hh : h = 0
    · subst hh
      simp only [z0] at e1 e2
      by_cases ht : t = 0
      · subst ht
        simp only [z0] at e1 e2
        simp [d_count_turns, Dn.df, e1, e2, eqD_int, CT, hw', hw]
      · have ht' : ¬ (t : Int) = 0 := by omega
        simp [d_count_turns, Dn.df, e1, e2, eqD_int, CT, hw', hw, ht, ht']
    · have hh' : ¬ (h : Int) = 0 := by omega
      have f1 : ((t : Int) + 1).fdiv 2 = (((t + 1) / 2 : Nat) : Int) := fdiv2n (t + 1)
      have f2 := fdiv2n t
      have ew : (w : Int) - 1 = ((w - 1 : Nat) : Int) := by omega
      have eh : (h : Int) - 1 = ((h - 1 : Nat) : Int) := by omega
      have g1 := s_chosen (k := k + 2) (S := S) (n := w - 1) (s := ((t / 2 : Nat) : Int)) (by omega) (by omega)
      have g2 := s_chosen (k := k + 2) (S := S) (n := h - 1) (s := (((t + 1) / 2 : Nat) : Int) - 1) (by omega) (by omega)
      have g3 := s_chosen (k := k + 2) (S := S) (n := h - 1) (s := ((t / 2 : Nat) : Int)) (by omega) (by omega)
      have g4 := s_chosen (k := k + 2) (S := S) (n := w - 1) (s := (((t + 1) / 2 : Nat) : Int) - 1) (by omega) (by omega)
      have b1 := CI_bd (n := w - 1) (by omega) ((t / 2 : Nat) : Int)
      have b3 := CI_bd (n := h - 1) (by omega) ((t / 2 : Nat) : Int)
      have hc : CT w h t = CI (w - 1) ((t / 2 : Nat) : Int) * CI (h - 1) (((t + 1) / 2 : Nat) - 1 : Int) + CI (h - 1) ((t / 2 : Nat) : Int) * CI (w - 1) (((t + 1) / 2 : Nat) - 1 : Int) := by
        unfold CT; rw [if_neg (by simp [hw, hh])]
      rw [hc]
      simp only [run] at g1 g2 g3 g4
      generalize CI (w - 1) ((t / 2 : Nat) : Int) = A at *
      generalize CI (h - 1) ((((t + 1) / 2 : Nat) : Int) - 1) = B at *
      generalize CI (h - 1) ((t / 2 : Nat) : Int) = C at *
      generalize CI (w - 1) ((((t + 1) / 2 : Nat) : Int) - 1) = E at *
      have m1 : binD .Mult (.int A) (.int B) = some (.int (A * B)) := binD_mul (.inl (small_of (by omega) (by omega)))
      have m2 : binD .Mult (.int C) (.int E) = some (.int (C * E)) := binD_mul (.inl (small_of (by omega) (by omega)))
      rw [← ew, ← eh] at *
      generalize ((t / 2 : Nat) : Int) = less at *
      generalize (((t + 1) / 2 : Nat) : Int) = more at *
      simp [d_count_turns, Dn.df, e1, e2, eqD_int, hw', hh', hw, hh, binD_div (show divOK 2 by decide), f1, f2, g1, g2, g3, g4, m1, m2]
end Lk34

set_option Elab.async false
set_option linter.all false
set_option maxRecDepth 100000
set_option maxHeartbeats 4000000
namespace Lk34
open PySem DV
variable {k : Nat} {S : Store}
/-! ### lists told by functions, in the last cell -/
def FL (f : Int → Int) (m : Nat) : List D := (List.range m).map fun i => D.int (f (i : Nat))
theorem FL_len {f : Int → Int} {m : Nat} : (FL f m).length = m := by simp [FL]
theorem FL_get {f : Int → Int} {m i : Nat} (h : i < m) : L2.atI (FL f m) (i : Int) = some (.int (f i)) := by
  rw [atI_nat (by rw [FL_len]; exact h)]
  simp [FL]
theorem FL_congr {f g : Int → Int} {m : Nat} (h : ∀ i : Nat, i < m → f i = g i) : FL f m = FL g m := by
  refine List.map_congr_left fun i hi => ?_
  rw [h i (List.mem_range.mp hi)]
theorem FL_set {f : Int → Int} {m i : Nat} {v : Int} : (FL f m).set i (.int v) = FL (fun x => if x = (i : Int) then v else f x) m := by
  refine List.ext_getElem (by simp [FL]) fun j h1 h2 => ?_
  simp only [FL, List.getElem_set, List.getElem_map, List.getElem_range]
  by_cases h : i = j
  · rw [if_pos h, if_pos (by omega)]
  · rw [if_neg h, if_neg (by omega)]
theorem FL_ints {f : Int → Int} {m : Nat} : FL f m = ((List.range m).map fun i => f (i : Nat)).map .int := by
  rw [List.map_map]; rfl
theorem get_end {T : Store} {c : Cell} : (T ++ [c])[T.length]? = some c := by simp
theorem set_end {T : Store} {c c' : Cell} : (T ++ [c]).set T.length c' = T ++ [c'] := by simp
section
variable {call : CallF} {wf : Nat} {ρ : DV.Loc} {T : Store} {f : Int → Int} {m : Nat}
theorem ev_get {a : Nat} {e : DE} {i : Nat} (ha : lget ρ a = some (.c T.length)) (he : evE call e ρ (T ++ [.lst (FL f m)]) = .ok (.p (.int i)) (T ++ [.lst (FL f m)])) (hi : i < m) :
    evE call (.ix (.var a) e) ρ (T ++ [.lst (FL f m)]) = .ok (.p (.int (f i))) (T ++ [.lst (FL f m)]) := by
  have g := FL_get (f := f) hi
  have hd : der (T ++ [.lst (FL f m)]) (.c T.length) = some (.lst (FL f m)) := by simp [der]
  generalize FL f m = xs at *
  simp [ha, he, hd, g]
theorem ev_set {a b : Nat} {e : DE} {i : Nat} {v : Int} (ha : lget ρ a = some (.c T.length)) (hb : lget ρ b = some (.p (.int i))) (he : evE call e ρ (T ++ [.lst (FL f m)]) = .ok (.p (.int v)) (T ++ [.lst (FL f m)])) (hi : i < m) :
    evS call wf (.setix (.var a) (.var b) e) ρ (T ++ [.lst (FL f m)]) = .nx ρ (T ++ [.lst (FL (fun x => if x = (i : Int) then v else f x) m)]) := by
  rw [← FL_set]
  have hl := FL_len (f := f) (m := m)
  have hx : L2.ixN m (i : Int) = some i := by
    unfold L2.ixN
    rw [if_pos (by omega), if_pos (by omega), Int.toNat_natCast]
  generalize FL f m = xs at *
  have hx2 : L2.ixN xs.length (i : Int) = some i := by rw [hl]; exact hx
  simp [he, ha, hb, hx2]
end
/-- one factor, in both readings: f, then f less f moved, then summed in steps of c -/
def gN (c h : Nat) (i : Int) : Int := N c h i - N c h (i - h - ((c + 1 : Nat) : Int))
theorem gN_eq (c h : Nat) (i : Int) : N (c + 1) h i = gN c h i + N (c + 1) h (i - ((c + 1 : Nat) : Int)) := N_step c h i
theorem asc0 (c h m : Nat) : FL (gN c h) m = FL (fun i => if i < ((c + 1 + 0 : Nat) : Int) then N (c + 1) h i else gN c h i) m :=
  FL_congr fun i _ => by
    split
    · rw [gN_eq, N_neg _ _ _ (by omega), Int.add_zero]
    · rfl
theorem ascE (c h m j : Nat) (hm : m ≤ c + 1 + j) : FL (fun i => if i < ((c + 1 + j : Nat) : Int) then N (c + 1) h i else gN c h i) m = FL (N (c + 1) h) m :=
  FL_congr fun i hi => by rw [if_pos (by omega)]
theorem ascS (c h m j : Nat) : FL (fun x => if x = ((c + 1 + j : Nat) : Int) then gN c h ((c + 1 + j : Nat) : Int) + N (c + 1) h (j : Nat) else if x < ((c + 1 + j : Nat) : Int) then N (c + 1) h x else gN c h x) m
    = FL (fun i => if i < ((c + 1 + (j + 1) : Nat) : Int) then N (c + 1) h i else gN c h i) m :=
  FL_congr fun i _ => by
    by_cases h1 : (i : Int) = ((c + 1 + j : Nat) : Int)
    · rw [if_pos h1, if_pos (by omega), h1, gN_eq c h ((c + 1 + j : Nat) : Int)]
      rw [show ((c + 1 + j : Nat) : Int) - ((c + 1 : Nat) : Int) = (j : Nat) by omega]
    · rw [if_neg h1]
      by_cases h2 : (i : Int) < ((c + 1 + j : Nat) : Int)
      · rw [if_pos h2, if_pos (by omega)]
      · rw [if_neg h2, if_neg (by omega)]
/-- the cells of the sum's loop -/
theorem asc_val {c h j m : Nat} : (fun i => if i < ((c + 1 + j : Nat) : Int) then N (c + 1) h i else gN c h i) ((c + 1 + j : Nat) : Int) = gN c h ((c + 1 + j : Nat) : Int) ∧ (fun i => if i < ((c + 1 + j : Nat) : Int) then N (c + 1) h i else gN c h i) (j : Nat) = N (c + 1) h (j : Nat) := by
  constructor
  · dsimp only
    rw [if_neg (by omega)]
  · dsimp only
    rw [if_pos (by omega)]
abbrev aD : List DS := [.setix (.var 2) (.var 4) (.bin .Sub (.ix (.var 2) (.var 4)) (.ix (.var 2) (.bin .Sub (.bin .Sub (.var 4) (.var 1)) (.var 3))))]
abbrev aA : List DS := [.setix (.var 2) (.var 4) (.bin .Add (.ix (.var 2) (.var 4)) (.ix (.var 2) (.bin .Sub (.var 4) (.var 3))))]
abbrev aC : List DS := [.for (.name 4) .rng [(.bin .Mult (.var 0) (.var 1)), (.bin .Sub (.bin .Add (.var 1) (.var 3)) (.con (.int 1))), (.neg (.con (.int 1)))] aD, .for (.name 4) .rng [(.var 3), (.bin .Add (.bin .Mult (.var 0) (.var 1)) (.con (.int 1)))] aA]
theorem fl0 (h m : Nat) : [D.int 1] ++ (List.replicate m [D.int 0]).flatten = FL (N 0 h) (m + 1) := by
  have e : (List.replicate m [D.int 0]).flatten = List.replicate m (D.int 0) := by
    induction m with
    | zero => rfl
    | succ m ih => simp [List.replicate_succ, ih]
  rw [e]
  refine List.ext_getElem (by simp [FL]) fun i h1 h2 => ?_
  simp only [FL, List.getElem_map, List.getElem_range, N0]
  cases i with
  | zero => rfl
  | succ i =>
    rw [if_neg (by omega)]
    simp
section
variable {call : CallF} {w h c : Nat} {x : Option Sv}
theorem items_down {S : Store} {a b : Int} (h1 : -1000000000 ≤ a) (h2 : a ≤ 1000000000) (h3 : -1000000000 ≤ b) (h4 : b ≤ 1000000000) : itemsOf .rng [.p (.int a), .p (.int b), .p (.int (-1))] S = some ((List.range (a - b).toNat).map fun m => D.int (a - (m : Nat)), []) := by
  show (if rngOK a ∧ rngOK b ∧ (-1 : Int) = -1 then some (rngDown a (a - b).toNat, []) else none) = _
  rw [if_pos ⟨rngOK_of (by omega) (by omega), rngOK_of (by omega) (by omega), rfl⟩]
  congr 2
  refine List.map_congr_left fun m _ => ?_
  congr 1
  omega
/-- downwards: the product -/
theorem a_desc (hw : w ≤ 30) (hh : h ≤ 30) (hc : c < w) {x : Option Sv} : ∃ y, evS call 600 (.for (.name 4) .rng [(.bin .Mult (.var 0) (.var 1)), (.bin .Sub (.bin .Add (.var 1) (.var 3)) (.con (.int 1))), (.neg (.con (.int 1)))] aD) [some (.p (.int w)), some (.p (.int h)), some (.c S.length), some (.p (.int ((c + 1 : Nat) : Int))), x] (S ++ [.lst (FL (N c h) (w * h + 1))])
    = .nx [some (.p (.int w)), some (.p (.int h)), some (.c S.length), some (.p (.int ((c + 1 : Nat) : Int))), y] (S ++ [.lst (FL (gN c h) (w * h + 1))]) := by
  have hm : binD .Mult (.int (w : Int)) (.int (h : Int)) = some (.int ((w * h : Nat) : Int)) := binD_mul (.inl (small_of (by omega) (by omega)))
  have hM : w * h ≤ 900 := Nat.mul_le_mul hw hh
  generalize hMe : w * h = m at *
  rw [evS_for (vs := [.p (.int (m : Int)), .p (.int ((h : Int) + ((c + 1 : Nat) : Int) - 1)), .p (.int (-1))]) (S1 := S ++ [.lst (FL (N c h) (m + 1))]) (by
    generalize FL (N c h) (m + 1) = Z
    simp [hm]) (items_down (by omega) (by omega) (by omega) (by omega))]
  generalize hr : forL _ _ _ _ _ _ = res
  obtain ⟨ρ', S', rfl, hI⟩ := all_of hr (fun j ρ St => St = S ++ [.lst (FL (fun i => if (m : Int) - j < i then gN c h i else N c h i) (m + 1))] ∧ ∃ y, ρ = [some (.p (.int w)), some (.p (.int h)), some (.c S.length), some (.p (.int ((c + 1 : Nat) : Int))), y])
    ⟨by rw [show FL (N c h) (m + 1) = FL (fun i => if (m : Int) - ((0 : Nat) : Int) < i then gN c h i else N c h i) (m + 1) from FL_congr fun i hi => (if_neg (by omega)).symm], x, rfl⟩ (fun _ _ _ _ => rfl) (fun j hj ρ St hI => by
      obtain ⟨rfl, y, rfl⟩ := hI
      rw [List.length_map, List.length_range] at hj
      have hi : ∃ i : Nat, (m : Int) - (j : Nat) = (i : Int) ∧ i < m + 1 ∧ h + (c + 1) ≤ i := ⟨m - j, by omega, by omega, by omega⟩
      obtain ⟨i, ei, h1, h2⟩ := hi
      refine ⟨[some (.p (.int w)), some (.p (.int h)), some (.c S.length), some (.p (.int ((c + 1 : Nat) : Int))), some (.p (.int (i : Int)))], _, S ++ [.lst (FL (fun i => if (m : Int) - ((j + 1 : Nat) : Int) < i then gN c h i else N c h i) (m + 1))], by simp [ei], .inl (?_ : _ = SR.nx [some (.p (.int w)), some (.p (.int h)), some (.c S.length), some (.p (.int ((c + 1 : Nat) : Int))), some (.p (.int (i : Int)))] _), rfl, _, rfl⟩
      rw [evB_cons, ev_set (i := i) (v := gN c h i) rfl rfl ?_ h1]
      · simp only [SR.seq_nx, evB_nil]
        refine congrArg (fun L => SR.nx _ (S ++ [Cell.lst L])) (FL_congr fun z _ => ?_)
        by_cases hz : (z : Int) = (i : Int)
        · rw [if_pos hz, if_pos (by omega), hz]
        · rw [if_neg hz]
          by_cases hz2 : (m : Int) - (j : Nat) < z
          · rw [if_pos hz2, if_pos (by omega)]
          · rw [if_neg hz2, if_neg (by omega)]
      · have a1 := ev_get (call := call) (ρ := [some (.p (.int w)), some (.p (.int h)), some (.c S.length), some (.p (.int ((c + 1 : Nat) : Int))), some (.p (.int (i : Int)))]) (T := S) (f := fun i => if (m : Int) - (j : Nat) < i then gN c h i else N c h i) (m := m + 1) (a := 2) (e := .var 4) (i := i) rfl (by simp) h1
        have a2 := ev_get (call := call) (ρ := [some (.p (.int w)), some (.p (.int h)), some (.c S.length), some (.p (.int ((c + 1 : Nat) : Int))), some (.p (.int (i : Int)))]) (T := S) (f := fun i => if (m : Int) - (j : Nat) < i then gN c h i else N c h i) (m := m + 1) (a := 2) (e := .bin .Sub (.bin .Sub (.var 4) (.var 1)) (.var 3)) (i := i - h - (c + 1)) rfl (by simp; omega) (by omega)
        rw [if_neg (by omega)] at a1 a2
        rw [evE_bin, a1, R.bind_ok, a2, R.bind_ok]
        simp only [der_p, binD_sub, Option.map_some, R.of_some]
        unfold gN
        rw [show ((i - h - (c + 1) : Nat) : Int) = (i : Int) - h - ((c + 1 : Nat) : Int) by omega])
  obtain ⟨rfl, y, rfl⟩ := hI
  rw [List.length_map, List.length_range]
  refine ⟨y, ?_⟩
  refine congrArg (fun L => SR.nx _ (S ++ [Cell.lst L])) (FL_congr fun i hi => ?_)
  split
  · rfl
  · unfold gN
    rw [N_neg _ _ (_ - _ - _) (by omega)]
    omega
end
end Lk34

set_option Elab.async false
set_option linter.all false
set_option maxRecDepth 100000
set_option maxHeartbeats 4000000
namespace Lk34
open PySem DV
variable {k : Nat} {S : Store}
theorem lget_ne {ρ : DV.Loc} {a b : Nat} {y : Option Sv} (h : a ≠ b) : lget (ρ.set b y) a = lget ρ a := by
  unfold lget
  rw [List.getElem?_set_ne (Ne.symm h)]
theorem lget_eq {ρ : DV.Loc} {b : Nat} {v : Sv} (h : b < ρ.length) : lget (ρ.set b (some v)) b = some v := by
  unfold lget
  rw [List.getElem?_set_self h]
/-- upwards: the sum -/
theorem a_asc {call : CallF} {ρ0 : DV.Loc} {T : Store} {a b s c h m : Nat} (ha : lget ρ0 a = some (.c T.length)) (hs : lget ρ0 s = some (.p (.int ((c + 1 : Nat) : Int)))) (hab : a ≠ b) (hsb : s ≠ b) (hb : b < ρ0.length) (hc2 : c + 1 ≤ 100000) (hm2 : m ≤ 100000)
    {args : List DE} {y : Option Sv} (hargs : evL call args (ρ0.set b y) (T ++ [.lst (FL (gN c h) m)]) = .ok [.p (.int ((c + 1 : Nat) : Int)), .p (.int (m : Int))] (T ++ [.lst (FL (gN c h) m)])) :
    ∃ z, evS call 600 (.for (.name b) .rng args [.setix (.var a) (.var b) (.bin .Add (.ix (.var a) (.var b)) (.ix (.var a) (.bin .Sub (.var b) (.var s))))]) (ρ0.set b y) (T ++ [.lst (FL (gN c h) m)]) = .nx (ρ0.set b z) (T ++ [.lst (FL (N (c + 1) h) m)]) := by
  rw [evS_for hargs (items_rngN2 (by omega) (by omega))]
  generalize hr : forL _ _ _ _ _ _ = res
  obtain ⟨ρ', S', rfl, hI⟩ := all_of hr (fun j ρ St => St = T ++ [.lst (FL (fun i => if i < ((c + 1 + j : Nat) : Int) then N (c + 1) h i else gN c h i) m)] ∧ ∃ y, ρ = ρ0.set b y)
    ⟨by rw [asc0 c h m], y, rfl⟩ (fun _ _ _ _ => rfl) (fun j hj ρ St hI => by
      obtain ⟨rfl, y, rfl⟩ := hI
      rw [List.length_map, List.length_range] at hj
      refine ⟨ρ0.set b (some (.p (.int ((c + 1 + j : Nat) : Int)))), _, T ++ [.lst (FL (fun i => if i < ((c + 1 + (j + 1) : Nat) : Int) then N (c + 1) h i else gN c h i) m)], by simp, .inl (?_ : _ = SR.nx (ρ0.set b (some (.p (.int ((c + 1 + j : Nat) : Int))))) _), rfl, _, rfl⟩
      have l1 : lget (ρ0.set b (some (.p (.int ((c + 1 + j : Nat) : Int))))) a = some (.c T.length) := by rw [lget_ne hab, ha]
      have l2 : lget (ρ0.set b (some (.p (.int ((c + 1 + j : Nat) : Int))))) s = some (.p (.int ((c + 1 : Nat) : Int))) := by rw [lget_ne hsb, hs]
      have l3 : lget (ρ0.set b (some (.p (.int ((c + 1 + j : Nat) : Int))))) b = some (.p (.int ((c + 1 + j : Nat) : Int))) := lget_eq hb
      generalize ρ0.set b (some (.p (.int ((c + 1 + j : Nat) : Int)))) = ρ at *
      have a1 := ev_get (call := call) (ρ := ρ) (T := T) (f := fun i => if i < ((c + 1 + j : Nat) : Int) then N (c + 1) h i else gN c h i) (m := m) (a := a) (e := .var b) (i := c + 1 + j) l1 (by simp [l3]) (by omega)
      have a2 := ev_get (call := call) (ρ := ρ) (T := T) (f := fun i => if i < ((c + 1 + j : Nat) : Int) then N (c + 1) h i else gN c h i) (m := m) (a := a) (e := .bin .Sub (.var b) (.var s)) (i := j) l1 (by simp [l3, l2]; omega) (by omega)
      rw [if_neg (by omega)] at a1
      rw [if_pos (by omega)] at a2
      rw [evB_cons, ev_set (i := c + 1 + j) (v := gN c h ((c + 1 + j : Nat) : Int) + N (c + 1) h (j : Nat)) l1 l3 ?_ (by omega)]
      · simp only [SR.seq_nx, evB_nil]
        rw [ascS]
      · rw [evE_bin, a1, R.bind_ok, a2, R.bind_ok]
        simp only [der_p, binD_add, Option.map_some, R.of_some])
  obtain ⟨rfl, y, rfl⟩ := hI
  rw [List.length_map, List.length_range, ascE _ _ _ _ (by omega)]
  exact ⟨y, rfl⟩
/-- the numbers of ways by area -/
theorem s_areas {w h : Nat} (hw : w ≤ 30) (hh : h ≤ 30) : run (k + 1) "areas_of" [.p (.int w), .p (.int h)] S = .ok (.p (.lst (FL (N w h) (w * h + 1)))) S := by
  have hm : binD .Mult (.int (w : Int)) (.int (h : Int)) = some (.int ((w * h : Nat) : Int)) := binD_mul (.inl (small_of (by omega) (by omega)))
  have hM : w * h ≤ 900 := Nat.mul_le_mul hw hh
  have hl : ∃ x y, evS (callF tb.tab 600 k) 600 (.for (.name 3) .rng [(.con (.int 1)), (.bin .Add (.var 0) (.con (.int 1)))] aC) [some (.p (.int w)), some (.p (.int h)), some (.c S.length), none, none] (S ++ [.lst (FL (N 0 h) (w * h + 1))])
      = .nx [some (.p (.int w)), some (.p (.int h)), some (.c S.length), x, y] (S ++ [.lst (FL (N w h) (w * h + 1))]) := by
    rw [evS_for (vs := [.p (.int ((1 : Nat) : Int)), .p (.int ((w + 1 : Nat) : Int))]) (by simp; rfl) (items_rngN2 (by omega) (by omega))]
    generalize hr : forL _ _ _ _ _ _ = res
    obtain ⟨ρ', S', rfl, hI⟩ := all_of hr (fun j ρ St => St = S ++ [.lst (FL (N j h) (w * h + 1))] ∧ ∃ x y, ρ = [some (.p (.int w)), some (.p (.int h)), some (.c S.length), x, y]) ⟨rfl, none, none, rfl⟩ (fun _ _ _ _ => rfl) (fun j hj ρ St hI => by
      obtain ⟨rfl, x, y, rfl⟩ := hI
      rw [List.length_map, List.length_range] at hj
      obtain ⟨y1, e1⟩ := a_desc (call := callF tb.tab 600 k) (S := S) (c := j) hw hh (by omega) (x := y)
      obtain ⟨y2, e2⟩ := a_asc (call := callF tb.tab 600 k) (ρ0 := [some (.p (.int w)), some (.p (.int h)), some (.c S.length), some (.p (.int ((j + 1 : Nat) : Int))), none]) (T := S) (a := 2) (b := 4) (s := 3) (c := j) (h := h) (m := w * h + 1) rfl rfl (by decide) (by decide) (by simp) (by omega) (by omega) (args := [(.var 3), (.bin .Add (.bin .Mult (.var 0) (.var 1)) (.con (.int 1)))]) (y := y1) (by
        generalize FL _ _ = Z
        simp [hm])
      refine ⟨[some (.p (.int w)), some (.p (.int h)), some (.c S.length), some (.p (.int ((j + 1 : Nat) : Int))), y], [some (.p (.int w)), some (.p (.int h)), some (.c S.length), some (.p (.int ((j + 1 : Nat) : Int))), y2], _, by simp [Int.add_comm], .inl ?_, rfl, _, _, rfl⟩
      refine (seqE e1).trans ?_
      refine (seqE e2).trans ?_
      rfl)
    obtain ⟨rfl, x, y, rfl⟩ := hI
    rw [List.length_map, List.length_range]
    exact ⟨x, y, rfl⟩
  obtain ⟨x, y, hl⟩ := hl
  have e : evB (callF tb.tab 600 k) 600 d_areas_of.df.body [some (.p (.int w)), some (.p (.int h)), none, none, none] S = .ret (.c S.length) (S ++ [.lst (FL (N w h) (w * h + 1))]) := by
    refine (seqE (ρ' := [some (.p (.int w)), some (.p (.int h)), some (.c S.length), none, none]) (S' := S ++ [.lst (FL (N 0 h) (w * h + 1))]) ?_).trans ?_
    · have e0 := fl0 h (w * h)
      clear hl
      generalize FL (N 0 h) (w * h + 1) = Z at *
      generalize w * h = m at *
      have m2 : binD .Mult (.lst [.int 0]) (.int ((m : Nat) : Int)) = some (.lst (List.replicate m [D.int 0]).flatten) := by
        simp only [binD]
        rw [if_pos ⟨by omega, by omega, by simp; exact size1000 (n := m) (by omega)⟩, Int.toNat_natCast]
      have m3 : binD .Add (.lst [.int 1]) (.lst (List.replicate m [D.int 0]).flatten) = some (.lst Z) := by
        have hsz : [D.int 1].length + (List.replicate m [D.int 0]).flatten.length ≤ sizeLine := size1000 (by simp; omega)
        rw [binD_catL hsz, e0]
      generalize (List.replicate m [D.int 0]).flatten = L at *
      simp [pures, hm, m2, m3, frsh]
    refine (seqE hl).trans ?_
    simp
  rw [run, callF_succ (d := d_areas_of.df) (by kernel_rfl) rfl]
  refine (congrArg (finishR false S.length) e).trans ?_
  rw [finishR_retc, if_neg (by omega), get_end]
  simp
theorem s_carea {w h a : Nat} (hw : w ≤ 30) (hh : h ≤ 30) (ha : a ≤ 1000) : run (k + 4) "count_area" [.p (.int w), .p (.int h), .p (.int a)] S = .ok (.p (.int (N w h a))) S := by
  have e1 := s_sides (k := k) (S := S) hw hh
  have e2 := s_need (k := k + 1) (S := S) (x := a) (lo := 0) (hi := 1000) (by omega) (by omega)
  have e3 := s_areas (k := k + 2) (S := S) hw hh
  have hm : binD .Mult (.int (w : Int)) (.int (h : Int)) = some (.int ((w * h : Nat) : Int)) := binD_mul (.inl (small_of (by omega) (by omega)))
  have g := fun hi : a < w * h + 1 => FL_get (f := N w h) (m := w * h + 1) hi
  have gt := fun hi : ((w * h : Nat) : Int) < a => N_top hi
  simp only [run] at e1 e2 e3
  rw [run, callF_succ (d := d_count_area.df) (by kernel_rfl) rfl]
  generalize FL (N w h) (w * h + 1) = Z at *
  generalize w * h = m at *
  by_cases hc : a ≤ m
  · have g := g (by omega)
    have hc' : (a : Int) ≤ m := by omega
    simp [d_count_area, Dn.df, e1, e2, e3, hm, hc, g]
  · have g := gt (by omega)
    simp [d_count_area, Dn.df, e1, e2, e3, hm, hc, g]
abbrev pN : DE := .bin .Sub (.ix (.var 3) (.var 5)) (.ife (.cmp .GtE (.var 5) (.bin .Add (.var 1) (.var 4))) (.ix (.var 3) (.bin .Sub (.bin .Sub (.var 5) (.var 1)) (.var 4))) (.con (.int 0)))
abbrev p0 : DS := .new 3 (.lc pN (.name 5) .rng [(.bin .Add (.var 2) (.con (.int 1)))] [] [6, 5])
abbrev p1 : DS := .for (.name 5) .rng [(.var 4), (.bin .Add (.var 2) (.con (.int 1)))] [.setix (.var 3) (.var 5) (.bin .Add (.ix (.var 3) (.var 5)) (.ix (.var 3) (.bin .Sub (.var 5) (.var 4))))]
theorem p0_ev {call : CallF} {T : Store} {w h c m : Nat} {x : Option Sv} (hh : h ≤ 30) (hc : c ≤ 30) (hm : m ≤ 900) : evS call 600 p0 [some (.p (.int w)), some (.p (.int h)), some (.p (.int m)), some (.c T.length), some (.p (.int ((c + 1 : Nat) : Int))), x, none] (T ++ [.lst (FL (N c h) (m + 1))])
    = .nx [some (.p (.int w)), some (.p (.int h)), some (.p (.int m)), some (.c (T ++ [Cell.lst (FL (N c h) (m + 1))]).length), some (.p (.int ((c + 1 : Nat) : Int))), x, none] ((T ++ [Cell.lst (FL (N c h) (m + 1))]) ++ [Cell.lst (FL (gN c h) (m + 1))]) := by
  have lc : evE call (.lc pN (.name 5) .rng [(.bin .Add (.var 2) (.con (.int 1)))] [] [6, 5]) [some (.p (.int w)), some (.p (.int h)), some (.p (.int m)), some (.c T.length), some (.p (.int ((c + 1 : Nat) : Int))), x, none] (T ++ [.lst (FL (N c h) (m + 1))])
      = .ok (.p (.lst (FL (gN c h) (m + 1)))) (T ++ [.lst (FL (N c h) (m + 1))]) := by
    rw [lc_map (vs := [.p (.int ((m + 1 : Nat) : Int))]) (ds := (List.range (m + 1)).map fun m => D.int (m : Nat)) (W := []) (f := fun d => match d with
      | .int i => .int (gN c h i)
      | _ => .non) (by simp) (items_rng (by omega)) rfl (fun d hd => ?_) (size1000 (by simp; omega))]
    · rw [List.map_map]; rfl
    · obtain ⟨i, hi, rfl⟩ := List.mem_map.mp hd
      have hi := List.mem_range.mp hi
      have hb : bindT (.name 5) (.p (.int (i : Nat))) (wipeρ [some (.p (.int w)), some (.p (.int h)), some (.p (.int m)), some (.c T.length), some (.p (.int ((c + 1 : Nat) : Int))), x, none] [6, 5]) = some [some (.p (.int w)), some (.p (.int h)), some (.p (.int m)), some (.c T.length), some (.p (.int ((c + 1 : Nat) : Int))), some (.p (.int (i : Nat))), none] := rfl
      have he : evE call pN [some (.p (.int w)), some (.p (.int h)), some (.p (.int m)), some (.c T.length), some (.p (.int ((c + 1 : Nat) : Int))), some (.p (.int (i : Nat))), none] (T ++ [.lst (FL (N c h) (m + 1))]) = .ok (.p (.int (gN c h i))) (T ++ [.lst (FL (N c h) (m + 1))]) := by
        have a1 := ev_get (call := call) (ρ := [some (.p (.int w)), some (.p (.int h)), some (.p (.int m)), some (.c T.length), some (.p (.int ((c + 1 : Nat) : Int))), some (.p (.int (i : Nat))), none]) (T := T) (f := N c h) (m := m + 1) (a := 3) (e := .var 5) (i := i) rfl (by simp) hi
        by_cases hq : h + (c + 1) ≤ i
        · have a2 := ev_get (call := call) (ρ := [some (.p (.int w)), some (.p (.int h)), some (.p (.int m)), some (.c T.length), some (.p (.int ((c + 1 : Nat) : Int))), some (.p (.int (i : Nat))), none]) (T := T) (f := N c h) (m := m + 1) (a := 3) (e := .bin .Sub (.bin .Sub (.var 5) (.var 1)) (.var 4)) (i := i - h - (c + 1)) rfl (by simp; omega) (by omega)
          have hq2 : (h : Int) + ((c + 1 : Nat) : Int) ≤ i := by omega
          rw [show pN = .bin .Sub (.ix (.var 3) (.var 5)) (.ife (.cmp .GtE (.var 5) (.bin .Add (.var 1) (.var 4))) (.ix (.var 3) (.bin .Sub (.bin .Sub (.var 5) (.var 1)) (.var 4))) (.con (.int 0))) from rfl, evE_bin, a1, R.bind_ok, evE_ife]
          have ht : evT call (.cmp .GtE (.var 5) (.bin .Add (.var 1) (.var 4))) [some (.p (.int w)), some (.p (.int h)), some (.p (.int m)), some (.c T.length), some (.p (.int ((c + 1 : Nat) : Int))), some (.p (.int (i : Nat))), none] (T ++ [.lst (FL (N c h) (m + 1))]) = .ok true (T ++ [.lst (FL (N c h) (m + 1))]) := by
            generalize ((c + 1 : Nat) : Int) = C at *
            simp [hq2]
          rw [ht, R.bind_ok, if_pos rfl, a2, R.bind_ok]
          simp only [der_p, binD_sub, Option.map_some, R.of_some]
          unfold gN
          rw [show ((i - h - (c + 1) : Nat) : Int) = (i : Int) - h - ((c + 1 : Nat) : Int) by omega]
        · have hq2 : ¬ (h : Int) + ((c + 1 : Nat) : Int) ≤ i := by omega
          rw [show pN = .bin .Sub (.ix (.var 3) (.var 5)) (.ife (.cmp .GtE (.var 5) (.bin .Add (.var 1) (.var 4))) (.ix (.var 3) (.bin .Sub (.bin .Sub (.var 5) (.var 1)) (.var 4))) (.con (.int 0))) from rfl, evE_bin, a1, R.bind_ok, evE_ife]
          have ht : evT call (.cmp .GtE (.var 5) (.bin .Add (.var 1) (.var 4))) [some (.p (.int w)), some (.p (.int h)), some (.p (.int m)), some (.c T.length), some (.p (.int ((c + 1 : Nat) : Int))), some (.p (.int (i : Nat))), none] (T ++ [.lst (FL (N c h) (m + 1))]) = .ok false (T ++ [.lst (FL (N c h) (m + 1))]) := by
            generalize ((c + 1 : Nat) : Int) = C at *
            simp [hq2]
          rw [ht, R.bind_ok, if_neg (by decide), evE_con, R.bind_ok]
          simp only [der_p, binD_sub, Option.map_some, R.of_some]
          unfold gN
          rw [N_neg _ _ (_ - _ - _) (by omega)]
      simp only [lcTurn, hb, evTs_nil, R.bind_ok, if_true, he]
  rw [evS_new, lc, R.st_ok]
  simp only [frsh, if_true]
  rfl
end Lk34

set_option Elab.async false
set_option linter.all false
set_option maxRecDepth 100000
set_option maxHeartbeats 4000000
namespace Lk34
open PySem DV
variable {k : Nat} {S : Store}
theorem s_product {w h : Nat} (hw : w ≤ 30) (hh : h ≤ 30) : run (k + 1) "_law_product" [.p (.int w), .p (.int h)] S = .ok (.p (.lst (FL (N w h) (w * h + 1)))) S := by
  have hm : binD .Mult (.int (w : Int)) (.int (h : Int)) = some (.int ((w * h : Nat) : Int)) := binD_mul (.inl (small_of (by omega) (by omega)))
  have hM : w * h ≤ 900 := Nat.mul_le_mul hw hh
  have e0 := fl0 h (w * h)
  generalize w * h = m at *
  have hl : ∃ T x y, S.length ≤ T.length ∧ T.take S.length = S ∧ evS (callF tb.tab 600 k) 600 (.for (.name 4) .rng [(.con (.int 1)), (.bin .Add (.var 0) (.con (.int 1)))] [p0, p1]) [some (.p (.int w)), some (.p (.int h)), some (.p (.int m)), some (.c S.length), none, none, none] (S ++ [.lst (FL (N 0 h) (m + 1))])
      = .nx [some (.p (.int w)), some (.p (.int h)), some (.p (.int m)), some (.c T.length), x, y, none] (T ++ [.lst (FL (N w h) (m + 1))]) := by
    rw [evS_for (vs := [.p (.int ((1 : Nat) : Int)), .p (.int ((w + 1 : Nat) : Int))]) (by simp; rfl) (items_rngN2 (by omega) (by omega))]
    generalize hr : forL _ _ _ _ _ _ = res
    obtain ⟨ρ', S', rfl, hI⟩ := all_of hr (fun j ρ St => ∃ T x y, S.length ≤ T.length ∧ T.take S.length = S ∧ St = T ++ [.lst (FL (N j h) (m + 1))] ∧ ρ = [some (.p (.int w)), some (.p (.int h)), some (.p (.int m)), some (.c T.length), x, y, none]) ⟨S, none, none, Nat.le_refl _, List.take_length, rfl, rfl⟩ (fun _ _ _ _ => rfl) (fun j hj ρ St hI => by
      obtain ⟨T, x, y, hT, hT2, rfl, rfl⟩ := hI
      rw [List.length_map, List.length_range] at hj
      have e1 := p0_ev (call := callF tb.tab 600 k) (T := T) (w := w) (h := h) (c := j) (m := m) (x := y) hh (by omega) hM
      obtain ⟨y2, e2⟩ := a_asc (call := callF tb.tab 600 k) (ρ0 := [some (.p (.int w)), some (.p (.int h)), some (.p (.int m)), some (.c (T ++ [Cell.lst (FL (N j h) (m + 1))]).length), some (.p (.int ((j + 1 : Nat) : Int))), none, none]) (T := T ++ [Cell.lst (FL (N j h) (m + 1))]) (a := 3) (b := 5) (s := 4) (c := j) (h := h) (m := m + 1) rfl rfl (by decide) (by decide) (by simp) (by omega) (by omega) (args := [(.var 4), (.bin .Add (.var 2) (.con (.int 1)))]) (y := y) (by
        generalize T ++ [Cell.lst (FL (N j h) (m + 1))] = T'
        generalize FL _ _ = Z
        simp)
      refine ⟨[some (.p (.int w)), some (.p (.int h)), some (.p (.int m)), some (.c T.length), some (.p (.int ((j + 1 : Nat) : Int))), y, none], _, _, by simp [Int.add_comm], .inl ((seqE e1).trans ((seqE e2).trans rfl)), T ++ [Cell.lst (FL (N j h) (m + 1))], _, _, by simp; omega, ?_, rfl, rfl⟩
      rw [List.take_append_of_le_length hT, hT2])
    obtain ⟨T, x, y, hT, hT2, rfl, rfl⟩ := hI
    rw [List.length_map, List.length_range]
    exact ⟨T, x, y, hT, hT2, rfl⟩
  obtain ⟨T, x, y, hT, hT2, hl⟩ := hl
  have e : evB (callF tb.tab 600 k) 600 d__law_product.df.body [some (.p (.int w)), some (.p (.int h)), none, none, none, none, none] S = .ret (.c T.length) (T ++ [.lst (FL (N w h) (m + 1))]) := by
    refine (seqE (ρ' := [some (.p (.int w)), some (.p (.int h)), some (.p (.int m)), none, none, none, none]) (S' := S) (by simp [hm])).trans ?_
    refine (seqE (ρ' := [some (.p (.int w)), some (.p (.int h)), some (.p (.int m)), some (.c S.length), none, none, none]) (S' := S ++ [.lst (FL (N 0 h) (m + 1))]) ?_).trans ?_
    · clear hl
      generalize FL (N 0 h) (m + 1) = Z at *
      have m2 : binD .Mult (.lst [.int 0]) (.int ((m : Nat) : Int)) = some (.lst (List.replicate m [D.int 0]).flatten) := by
        simp only [binD]
        rw [if_pos ⟨by omega, by omega, by simp; exact size1000 (n := m) (by omega)⟩, Int.toNat_natCast]
      have m3 : binD .Add (.lst [.int 1]) (.lst (List.replicate m [D.int 0]).flatten) = some (.lst Z) := by
        have hsz : [D.int 1].length + (List.replicate m [D.int 0]).flatten.length ≤ sizeLine := size1000 (by simp; omega)
        rw [binD_catL hsz, e0]
      generalize (List.replicate m [D.int 0]).flatten = L at *
      simp [pures, m2, m3, frsh]
    refine (seqE hl).trans ?_
    simp
  rw [run, callF_succ (d := d__law_product.df) (by kernel_rfl) rfl]
  refine (congrArg (finishR false S.length) e).trans ?_
  rw [finishR_retc, if_neg (by omega), get_end]
  simp only
  rw [List.take_append_of_le_length hT, hT2]
/-! ### a way of an area -/
/-- the way above heights: ups to each height, then to the right -/
def mv (y : Nat) (h : Nat) : List Nat → List Bool
  | [] => List.replicate (h - y) false
  | a :: as => List.replicate (a - y) false ++ true :: mv a h as
/-- the heights: r filled from the right -/
def hts (h : Nat) : Nat → Nat → List Nat
  | 0, _ => []
  | w + 1, a => hts h w (a - min h a) ++ [min h a]
theorem hts_len (h : Nat) : ∀ w a, (hts h w a).length = w
  | 0, _ => rfl
  | w + 1, a => by simp [hts, hts_len h w]
end Lk34

set_option Elab.async false
set_option linter.all false
set_option maxRecDepth 100000
set_option maxHeartbeats 4000000
namespace Lk34
open PySem DV
variable {k : Nat} {S : Store}
def Mo (y h : Nat) : List Nat → Prop
  | [] => y ≤ h
  | a :: as => y ≤ a ∧ Mo a h as
theorem Mo_snoc : ∀ {as : List Nat} {y c d : Nat}, Mo y c as → c ≤ d → Mo y d (as ++ [d])
  | [], y, c, d, h, hd => ⟨Nat.le_trans h hd, Nat.le_refl _⟩
  | a :: as, y, c, d, h, hd => ⟨h.1, Mo_snoc h.2 hd⟩
theorem Mo_up : ∀ {as : List Nat} {y c d : Nat}, Mo y c as → c ≤ d → Mo y d as
  | [], y, c, d, h, hd => Nat.le_trans h hd
  | a :: as, y, c, d, h, hd => ⟨h.1, Mo_up h.2 hd⟩
theorem Mo_le : ∀ {as : List Nat} {y c : Nat}, Mo y c as → y ≤ c
  | [], y, c, h => h
  | a :: as, y, c, h => Nat.le_trans h.1 (Mo_le h.2)
theorem hts_mo (h : Nat) : ∀ w a, Mo 0 (min h a) (hts h w a)
  | 0, a => Nat.zero_le _
  | w + 1, a => Mo_snoc (hts_mo h w (a - min h a)) (by omega)
theorem hts_sum (h : Nat) : ∀ w a, a ≤ w * h → (hts h w a).sum = a
  | 0, a, ha => by rw [Nat.zero_mul] at ha; simp [hts]; omega
  | w + 1, a, ha => by
    rw [Nat.succ_mul] at ha
    rw [hts, List.sum_append, hts_sum h w _ (by omega)]
    simp
    omega
theorem X_rep (n : Nat) : X (List.replicate n false) = 0 := by
  induction n with
  | zero => rfl
  | succ n ih => rw [List.replicate_succ, X, ih]; rfl
theorem Y_rep (n : Nat) : Y (List.replicate n false) = n := by
  induction n with
  | zero => rfl
  | succ n ih => rw [List.replicate_succ, Y, ih, oy_f]; omega
theorem ar_rep (n : Nat) : ∀ y, ar y (List.replicate n false) = 0 := by
  induction n with
  | zero => intro y; rfl
  | succ n ih => intro y; rw [List.replicate_succ, ar, ih]; rfl
theorem X_mv : ∀ (hs : List Nat) (y h : Nat), X (mv y h hs) = hs.length
  | [], y, h => by rw [mv, X_rep]; rfl
  | a :: as, y, h => by rw [mv, X_app, X_rep, X, X_mv as, ox_t, List.length_cons]; omega
theorem Y_mv : ∀ (hs : List Nat) (y h : Nat), Mo y h hs → Y (mv y h hs) = ((h - y : Nat) : Int)
  | [], y, h, _ => by rw [mv, Y_rep]
  | a :: as, y, h, m => by
    have := Mo_le m.2
    have := m.1
    rw [mv, Y_app, Y_rep, Y, Y_mv as _ _ m.2, oy_t]; omega
theorem ar_mv : ∀ (hs : List Nat) (y h : Nat), Mo y h hs → ar (y : Int) (mv y h hs) = (hs.sum : Nat)
  | [], y, h, _ => by rw [mv, ar_rep]; rfl
  | a :: as, y, h, m => by
    have := m.1
    rw [mv, ar_app, ar_rep, Y_rep, ar, oy_t, if_pos rfl, show (y : Int) + ((a - y : Nat) : Int) = (a : Int) by omega, Int.add_zero, ar_mv as _ _ m.2, List.sum_cons]; omega
theorem wy_app : ∀ (bs cs : List Bool) (x y : Int), wy x y (bs ++ cs) = wy x y bs ++ (wy (x + X bs) (y + Y bs) cs).tail
  | [], cs, x, y => by
    obtain ⟨r, e⟩ := wy_head x y cs
    simp only [List.nil_append, X, Y, Int.add_zero, e, wy, List.tail_cons, List.cons_append]
  | b :: bs, cs, x, y => by
    simp only [List.cons_append, wy, X, Y, wy_app bs cs, ← Int.add_assoc]
theorem wy_rep (n : Nat) : ∀ (x y : Int), (wy x y (List.replicate n false)).tail = (List.range n).map fun i => M x (y + 1 + (i : Nat)) := by
  have h : ∀ (n : Nat) (x y : Int), wy x y (List.replicate n false) = M x y :: (List.range n).map fun i => M x (y + 1 + (i : Nat)) := by
    intro n
    induction n with
    | zero => intro x y; rfl
    | succ n ih =>
      intro x y
      rw [List.replicate_succ', wy_snoc, ih, List.range_succ, List.map_append, List.cons_append, X_rep, Y_rep, ox_f, oy_f]
      simp only [List.map_cons, List.map_nil]
      rw [show x + 0 + 0 = x by omega, show y + (n : Int) + 1 = y + 1 + (n : Int) by omega]
  intro x y
  rw [h]; rfl
abbrev NL (ns : List Nat) : List D := ns.map fun n : Nat => D.int (n : Nat)
abbrev w4 : DS := .for (.name 4) .rng [(.bin .Sub (.var 0) (.con (.int 1))), (.neg (.con (.int 1))), (.neg (.con (.int 1)))] [.setix (.var 3) (.var 4) (.bi .min [(.var 1), (.var 2)]), .asg (.name 2) (.bin .Sub (.var 2) (.ix (.var 3) (.var 4)))]
abbrev w5 : DS := .asg (.name 5) (.lst [(.tup [(.con (.int 0)), (.con (.int 0))])])
abbrev w6 : DS := .for (.tup [(.name 4), (.name 6)]) .enum [(.var 3)] [.asg (.name 5) (.bin .Add (.bin .Add (.var 5) (.lc (.tup [(.var 4), (.var 8)]) (.name 8) .rng [(.bin .Add (.ix (.ix (.var 5) (.neg (.con (.int 1)))) (.con (.int 1))) (.con (.int 1))), (.bin .Add (.var 6) (.con (.int 1)))] [] [7, 8])) (.lst [(.tup [(.bin .Add (.var 4) (.con (.int 1))), (.var 6)])]))]
abbrev w7 : DS := .ret (.bi .tuple [(.bin .Add (.var 5) (.lc (.tup [(.var 0), (.var 8)]) (.name 8) .rng [(.bin .Add (.ix (.ix (.var 5) (.neg (.con (.int 1)))) (.con (.int 1))) (.con (.int 1))), (.bin .Add (.var 1) (.con (.int 1)))] [] [7, 8]))])
theorem rep_set (n : Nat) (a b : D) (t : List D) : (List.replicate (n + 1) a ++ t).set n b = List.replicate n a ++ b :: t := by
  rw [List.replicate_succ', List.append_assoc, List.set_append_right _ _ (by simp)]
  simp
theorem w4_ev {call : CallF} {w h a : Nat} (hw : w ≤ 30) (hh : h ≤ 30) (ha : a ≤ 1000) : ∃ (a' : Nat) (x : Option Sv), evS call 600 w4 [some (.p (.int w)), some (.p (.int h)), some (.p (.int a)), some (.c S.length), none, none, none, none, none] (S ++ [.lst (List.replicate w (D.int 0))])
    = .nx [some (.p (.int w)), some (.p (.int h)), some (.p (.int a')), some (.c S.length), x, none, none, none, none] (S ++ [.lst (NL (hts h w a))]) := by
  rw [evS_for (vs := [.p (.int ((w : Int) - 1)), .p (.int (-1)), .p (.int (-1))]) (by simp; rfl) (items_down (by omega) (by omega) (by omega) (by omega))]
  generalize hr : forL _ _ _ _ _ _ = res
  obtain ⟨ρ', S', rfl, hI⟩ := all_of hr (fun j ρ St => ∃ (a' : Nat) (x : Option Sv) (t : List Nat), hts h w a = hts h (w - j) a' ++ t ∧ St = S ++ [.lst (List.replicate (w - j) (D.int 0) ++ NL t)] ∧ ρ = [some (.p (.int w)), some (.p (.int h)), some (.p (.int a')), some (.c S.length), x, none, none, none, none]) ⟨a, none, [], by simp, by simp, rfl⟩ (fun _ _ _ _ => rfl) (fun j hj ρ St hI => by
    obtain ⟨a', x, t, ht, rfl, rfl⟩ := hI
    rw [List.length_map, List.length_range] at hj
    obtain ⟨n, hn⟩ : ∃ n, w - j = n + 1 := ⟨w - j - 1, by omega⟩
    have hn2 : w - (j + 1) = n := by omega
    rw [hn] at ht ⊢
    have ei : (w : Int) - 1 - (j : Nat) = (n : Nat) := by omega
    refine ⟨[some (.p (.int w)), some (.p (.int h)), some (.p (.int a')), some (.c S.length), some (.p (.int (n : Nat))), none, none, none, none], [some (.p (.int w)), some (.p (.int h)), some (.p (.int ((a' - min h a' : Nat) : Int))), some (.c S.length), some (.p (.int (n : Nat))), none, none, none, none], S ++ [.lst (List.replicate n (D.int 0) ++ D.int ((min h a' : Nat) : Int) :: NL t)], by simp [ei], .inl ?_, _, _, min h a' :: t, ?_, by rw [hn2]; rfl, rfl⟩
    · have hmin : biMin [.int (h : Int), .int (a' : Int)] = some (.int ((min h a' : Nat) : Int)) := by
        show some (D.int (if (a' : Int) < h then (a' : Int) else h)) = _
        congr 2
        split <;> omega
      have hs := rep_set n (D.int 0) (D.int ((min h a' : Nat) : Int)) (NL t)
      have hl : (List.replicate (n + 1) (D.int 0) ++ NL t).length = n + 1 + t.length := by simp
      have hat : L2.atI (List.replicate n (D.int 0) ++ D.int ((min h a' : Nat) : Int) :: NL t) (n : Int) = some (.int ((min h a' : Nat) : Int)) := by
        rw [atI_nat (by simp)]
        simp
      have hx : L2.ixN (n + 1 + t.length) (n : Int) = some n := by
        unfold L2.ixN
        rw [if_pos (by omega), if_pos (by omega), Int.toNat_natCast]
      have hsub : (a' : Int) - ((min h a' : Nat) : Int) = ((a' - min h a' : Nat) : Int) := by omega
      generalize ((a' - min h a' : Nat) : Int) = A at *
      generalize ((min h a' : Nat) : Int) = B at *
      generalize hZ : List.replicate (n + 1) (D.int 0) ++ NL t = Z at *
      generalize hZ2 : List.replicate n (D.int 0) ++ D.int B :: NL t = Z2 at *
      simp [ders, biF, hmin, hl, hx, hs, hat, hsub, der]
    · rw [ht, hn2, hts, List.append_assoc]
      rfl)
  obtain ⟨a', x, t, ht, rfl, rfl⟩ := hI
  rw [List.length_map, List.length_range, show w - ((w : Int) - 1 - -1).toNat = 0 by omega] at *
  refine ⟨a', x, ?_⟩
  rw [ht]
  rfl
end Lk34

set_option Elab.async false
set_option linter.all false
set_option maxRecDepth 100000
set_option maxHeartbeats 4000000
namespace Lk34
open PySem DV
variable {k : Nat} {S : Store}
abbrev lcU (a b : Nat) : DE := .lc (.tup [(.var a), (.var 8)]) (.name 8) .rng [(.bin .Add (.ix (.ix (.var 5) (.neg (.con (.int 1)))) (.con (.int 1))) (.con (.int 1))), (.bin .Add (.var b) (.con (.int 1)))] [] [7, 8]
/-- ups at one place -/
theorem lcU_ev {call : CallF} {St : Store} {ρ : DV.Loc} {a b : Nat} {xs : List D} {x j y h : Nat} (hρ : lget ρ 5 = some (.p (.lst xs))) (ha : lget ρ a = some (.p (.int (j : Nat)))) (hb : lget ρ b = some (.p (.int (h : Nat)))) (hx : L2.atI xs (-1) = some (M (x : Nat) (y : Nat))) (hy : y ≤ 100) (hh : h ≤ 100)
    (hl : ρ.length = 9) (ha8 : a < 7) : evE call (lcU a b) ρ St = .ok (.p (.lst ((List.range (h - y)).map fun i => M (j : Nat) ((y : Int) + 1 + (i : Nat))))) St := by
  rw [lc_map (vs := [.p (.int ((y + 1 : Nat) : Int)), .p (.int ((h + 1 : Nat) : Int))]) (ds := (List.range (h + 1 - (y + 1))).map fun m => D.int ((y + 1 + m : Nat) : Int)) (W := []) (f := fun d => .tup [.int (j : Nat), d]) (by simp [hρ, hb, hx, atI1]) (items_rngN2 (by omega) (by omega)) rfl (fun d hd => ?_) (size1000 (by simp; omega))]
  · rw [List.map_map, show h + 1 - (y + 1) = h - y by omega]
    refine congrArg (fun L => R.ok (Sv.p (D.lst L)) St) (List.map_congr_left fun i _ => ?_)
    show D.tup [_, D.int ((y + 1 + i : Nat) : Int)] = _
    rw [show ((y + 1 + i : Nat) : Int) = (y : Int) + 1 + (i : Nat) by omega]
  · have h1 : lget ((wipeρ ρ [7, 8]).set 8 (some (.p d))) a = some (.p (.int (j : Nat))) := by
      simp only [wipeρ_cons, wipeρ_nil]
      rw [lget_ne (by omega), lget_ne (by omega), lget_ne (by omega), ha]
    have h2 : lget ((wipeρ ρ [7, 8]).set 8 (some (.p d))) 8 = some (.p d) := lget_eq (by simp [hl])
    simp only [lcTurn, bindT_name]
    generalize (wipeρ ρ [7, 8]).set 8 (some (.p d)) = ρ' at *
    simp [h1, h2, pures]
theorem wy_ups {bs : List Bool} {j y a : Nat} (hX : X bs = j) (hY : Y bs = y) : wy 0 0 (bs ++ List.replicate (a - y) false) = wy 0 0 bs ++ (List.range (a - y)).map fun i => M (j : Nat) ((y : Int) + 1 + (i : Nat)) := by
  rw [wy_app, wy_rep, hX, hY]
  simp only [Int.zero_add]
theorem wy_step {bs : List Bool} {j y a : Nat} (hX : X bs = j) (hY : Y bs = y) (h : y ≤ a) : wy 0 0 (bs ++ (List.replicate (a - y) false ++ [true])) = (wy 0 0 bs ++ (List.range (a - y)).map fun i => M (j : Nat) ((y : Int) + 1 + (i : Nat))) ++ [M ((j : Int) + 1) (a : Nat)] := by
  rw [← List.append_assoc, wy_snoc, wy_ups hX hY, X_app, Y_app, X_rep, Y_rep, hX, hY, ox_t, oy_t]
  rw [show (0 : Int) + ((j : Int) + 0) + 1 = (j : Int) + 1 by omega, show (0 : Int) + ((y : Int) + ((a - y : Nat) : Int)) + 0 = (a : Int) by omega]
theorem NL_get {hs : List Nat} {j : Nat} (h : j < (NL hs).length) : (NL hs)[j] = D.int ((hs[j]'(by simpa using h) : Nat) : Int) := by simp
theorem w6_ev {call : CallF} {w h a' : Nat} {x : Option Sv} (hs : List Nat) (hl : hs.length = w) (hw : w ≤ 30) (hh : h ≤ 30) (mo : Mo 0 h hs) : ∃ bs y x4 x6, (y : Nat) ≤ h ∧ X bs = w ∧ Y bs = y ∧ mv 0 h hs = bs ++ List.replicate (h - y) false ∧
    evS call 600 w6 [some (.p (.int w)), some (.p (.int h)), some (.p (.int a')), some (.c S.length), x, some (.p (.lst (wy 0 0 []))), none, none, none] (S ++ [.lst (NL hs)])
    = .nx [some (.p (.int w)), some (.p (.int h)), some (.p (.int a')), some (.c S.length), x4, some (.p (.lst (wy 0 0 bs))), x6, none, none] (S ++ [.lst (NL hs)]) := by
  rw [evS_for (vs := [.c S.length]) (S1 := S ++ [.lst (NL hs)]) (ds := enumD (NL hs)) (W := [(S.length, .lst (NL hs))]) (by simp) (by simp [itemsOf, der, watchOf])]
  generalize hr : forL _ _ _ _ _ _ = res
  obtain ⟨ρ', S', rfl, hI⟩ := all_of hr (fun j ρ St => St = S ++ [.lst (NL hs)] ∧ ∃ (bs : List Bool) (y : Nat) (x4 x6 : Option Sv), X bs = j ∧ Y bs = y ∧ mv 0 h hs = bs ++ mv y h (hs.drop j) ∧ Mo y h (hs.drop j) ∧ ρ = [some (.p (.int w)), some (.p (.int h)), some (.p (.int a')), some (.c S.length), x4, some (.p (.lst (wy 0 0 bs))), x6, none, none])
    ⟨rfl, [], 0, x, none, rfl, rfl, rfl, mo, rfl⟩ (fun j ρ St hI => by obtain ⟨rfl, _⟩ := hI; simp [watched]) (fun j hj ρ St hI => by
    obtain ⟨rfl, bs, y, x4, x6, hX, hY, hmv, hmo, rfl⟩ := hI
    have hj : j < hs.length := by simpa [enumD] using hj
    have hd : hs.drop j = hs[j] :: hs.drop (j + 1) := List.drop_eq_getElem_cons hj
    rw [hd] at hmv hmo
    have hle := Mo_le hmo.2
    have hya := hmo.1
    have hds : (enumD (NL hs))[j]'(by simpa [enumD] using hj) = .tup [.int (j : Nat), .int (hs[j] : Nat)] := by simp [enumD]
    have hxy := XY bs
    have hlen : (wy 0 0 bs).length = j + y + 1 := by rw [wy_len]; omega
    have hlast := atL (x := 0) (y := 0) (bs := bs)
    rw [hX, hY, Int.zero_add, Int.zero_add] at hlast
    have hst := fun ha : y ≤ hs[j] => wy_step (a := hs[j]) hX hY ha
    generalize hs[j] = a at *
    have hst := hst hya
    have e1 := lcU_ev (call := call) (St := S ++ [.lst (NL hs)]) (ρ := [some (.p (.int w)), some (.p (.int h)), some (.p (.int a')), some (.c S.length), some (.p (.int (j : Nat))), some (.p (.lst (wy 0 0 bs))), some (.p (.int (a : Nat))), none, none]) (a := 4) (b := 6) (xs := wy 0 0 bs) (x := j) (j := j) (y := y) (h := a) rfl rfl rfl hlast (by omega) (by omega) rfl (by omega)
    refine ⟨[some (.p (.int w)), some (.p (.int h)), some (.p (.int a')), some (.c S.length), some (.p (.int (j : Nat))), some (.p (.lst (wy 0 0 bs))), some (.p (.int (a : Nat))), none, none], [some (.p (.int w)), some (.p (.int h)), some (.p (.int a')), some (.c S.length), some (.p (.int (j : Nat))), some (.p (.lst (wy 0 0 (bs ++ (List.replicate (a - y) false ++ [true]))))), some (.p (.int (a : Nat))), none, none], S ++ [.lst (NL hs)], by rw [hds]; rfl, .inl ?_, rfl, bs ++ (List.replicate (a - y) false ++ [true]), a, _, _, ?_, ?_, ?_, hmo.2, rfl⟩
    · rw [hst]
      have hsz1 : (wy 0 0 bs).length + ((List.range (a - y)).map fun i => M (j : Nat) ((y : Int) + 1 + (i : Nat))).length ≤ sizeLine := size1000 (by simp; omega)
      have hsz2 : (wy 0 0 bs ++ (List.range (a - y)).map fun i => M (j : Nat) ((y : Int) + 1 + (i : Nat))).length + [M ((j : Int) + 1) (a : Nat)].length ≤ sizeLine := size1000 (by simp; omega)
      have b1 := binD_catL hsz1
      have b2 := binD_catL hsz2
      generalize ((List.range (a - y)).map fun i => M (j : Nat) ((y : Int) + 1 + (i : Nat))) = U at *
      generalize wy 0 0 bs = W at *
      simp only [evB_cons, evB_nil, evS_asg, evE_bin, e1, evE_var, lget_succ, lget_zero, R.of_some, R.bind_ok, der_p, b1, Option.map_some, evE_lst, evL_cons, evL_nil, evE_tup, evE_con, binD_add, pures_p, pures_nil, b2, R.st_ok, bindT_name, SR.of_some, SR.seq_nx, List.set_cons_succ, List.set_cons_zero]
    · rw [X_app, X_app, X_rep, hX]; simp only [X, ox_t]; omega
    · rw [Y_app, Y_app, Y_rep, hY]; simp only [Y, oy_t]; omega
    · rw [hmv, mv]; simp only [List.append_assoc, List.cons_append, List.nil_append])
  obtain ⟨rfl, bs, y, x4, x6, hX, hY, hmv, hmo, rfl⟩ := hI
  have hll : (enumD (NL hs)).length = w := by simp [enumD, hl]
  rw [hll] at hX hmv hmo
  rw [← hl, List.drop_length] at hmv hmo
  exact ⟨bs, y, x4, x6, hmo, hX, hY, hmv, rfl⟩
theorem s_wayof {w h a : Nat} (hw : w ≤ 30) (hh : h ≤ 30) (ha : a ≤ 1000) : (w * h < a → run (k + 4) "way_of_area" [.p (.int w), .p (.int h), .p (.int a)] S = .ok (.p .non) S) ∧
    (a ≤ w * h → ∃ bs, X bs = w ∧ Y bs = h ∧ ar 0 bs = a ∧ run (k + 4) "way_of_area" [.p (.int w), .p (.int h), .p (.int a)] S = .ok (.p (D.tup (wy 0 0 (bs)))) S) := by
  have e1 := s_sides (k := k) (S := S) hw hh
  have e2 := s_need (k := k + 1) (S := S) (x := a) (lo := 0) (hi := 1000) (by omega) (by omega)
  have hm : binD .Mult (.int (w : Int)) (.int (h : Int)) = some (.int ((w * h : Nat) : Int)) := binD_mul (.inl (small_of (by omega) (by omega)))
  simp only [run] at e1 e2
  constructor
  · intro hlt
    generalize w * h = m at *
    rw [run, callF_succ (d := d_way_of_area.df) (by kernel_rfl) rfl]
    simp [d_way_of_area, Dn.df, e1, e2, hm, hlt]
  · intro hle
    have hsum := hts_sum h w a hle
    have hlen := hts_len h w a
    have hmo := Mo_up (hts_mo h w a) (d := h) (by omega)
    have hX := X_mv (hts h w a) 0 h
    have hY := Y_mv _ _ _ hmo
    have hA := ar_mv _ _ _ hmo
    obtain ⟨a2, x2, q4⟩ := w4_ev (S := S) (call := callF tb.tab 600 (k + 3)) (w := w) (h := h) (a := a) hw hh ha
    obtain ⟨bs, y, x4, x6, hy, hX2, hY2, hmv, q6⟩ := w6_ev (S := S) (call := callF tb.tab 600 (k + 3)) (a' := a2) (x := x2) (hts h w a) hlen hw hh hmo
    generalize hts h w a = hs at *
    generalize w * h = m at *
    refine ⟨mv 0 h hs, by rw [hX, hlen], by rw [hY]; rfl, by rw [show (0 : Int) = ((0 : Nat) : Int) from rfl, hA, hsum], ?_⟩
    have hlast := atL (x := 0) (y := 0) (bs := bs)
    rw [hX2, hY2, Int.zero_add, Int.zero_add] at hlast
    have e7 := lcU_ev (call := callF tb.tab 600 (k + 3)) (St := S ++ [.lst (NL hs)]) (ρ := [some (.p (.int w)), some (.p (.int h)), some (.p (.int a2)), some (.c S.length), x4, some (.p (.lst (wy 0 0 bs))), x6, none, none]) (a := 0) (b := 1) (xs := wy 0 0 bs) (x := w) (j := w) (y := y) (h := h) rfl rfl rfl hlast (by omega) (by omega) rfl (by omega)
    have hst := wy_ups (a := h) hX2 hY2
    have hxy := XY bs
    have hwl : (wy 0 0 bs).length = w + y + 1 := by rw [wy_len]; omega
    have e : evB (callF tb.tab 600 (k + 3)) 600 d_way_of_area.df.body [some (.p (.int w)), some (.p (.int h)), some (.p (.int a)), none, none, none, none, none, none] S = .ret (.p (D.tup (wy 0 0 (mv 0 h hs)))) (S ++ [.lst (NL hs)]) := by
      refine (seqE (ρ' := [some (.p (.int w)), some (.p (.int h)), some (.p (.int a)), none, none, none, none, none, none]) (S' := S) (by simp [e1])).trans ?_
      refine (seqE (ρ' := [some (.p (.int w)), some (.p (.int h)), some (.p (.int a)), none, none, none, none, none, none]) (S' := S) (by simp [e2])).trans ?_
      refine (seqE (ρ' := [some (.p (.int w)), some (.p (.int h)), some (.p (.int a)), none, none, none, none, none, none]) (S' := S) ?_).trans ?_
      · have : ¬ m < a := by omega
        simp [hm, this]
      refine (seqE (ρ' := [some (.p (.int w)), some (.p (.int h)), some (.p (.int a)), some (.c S.length), none, none, none, none, none]) (S' := S ++ [.lst (List.replicate w (D.int 0))]) ?_).trans ?_
      · have m2 : binD .Mult (.lst [.int 0]) (.int (w : Int)) = some (.lst (List.replicate w (D.int 0))) := by
          simp only [binD]
          rw [if_pos ⟨by omega, by omega, by simp; exact size1000 (n := w) (by omega)⟩, Int.toNat_natCast]
          simp
        generalize List.replicate w (D.int 0) = Z at *
        simp [pures, m2, frsh]
      refine (seqE q4).trans ?_
      refine (seqE (ρ' := [some (.p (.int w)), some (.p (.int h)), some (.p (.int a2)), some (.c S.length), x2, some (.p (.lst (wy 0 0 []))), none, none, none]) (S' := S ++ [.lst (NL hs)]) ?_).trans ?_
      · generalize NL hs = Z
        simp [pures, wy]
      refine (seqE q6).trans ?_
      refine seqR ?_
      rw [hmv, hst]
      have hsz1 : (wy 0 0 bs).length + ((List.range (h - y)).map fun i => M (w : Nat) ((y : Int) + 1 + (i : Nat))).length ≤ sizeLine := size1000 (by simp; omega)
      have b1 := binD_catL hsz1
      generalize ((List.range (h - y)).map fun i => M (w : Nat) ((y : Int) + 1 + (i : Nat))) = U at *
      generalize wy 0 0 bs = W at *
      have bt : biF .tuple [.lst (W ++ U)] = some (.tup (W ++ U)) := rfl
      simp only [evS_ret, evE_bi, evL_cons, evL_nil, evE_bin, e7, evE_var, lget_succ, lget_zero, R.of_some, R.bind_ok, der_p, b1, Option.map_some, ders_p, ders_nil, bt, R.st_ok]
    have r := run_ret (T := tb.tab) (wf := 600) (k := k + 3) (x := "way_of_area") (d := d_way_of_area.df) (vs := [.p (.int w), .p (.int h), .p (.int a)]) (S := S) (by kernel_rfl) rfl e
    rw [List.take_left'  rfl] at r
    exact r
end Lk34

set_option Elab.async false
set_option linter.all false
set_option maxRecDepth 100000
set_option maxHeartbeats 4000000
namespace Lk34
open PySem DV
variable {k : Nat} {S : Store}
/-! ### all ways, step by step -/
def ext (w h : Nat) (bs : List Bool) : List (List Bool) := (if Y bs + 1 ≤ h then [bs ++ [false]] else []) ++ (if X bs + 1 ≤ w then [bs ++ [true]] else [])
def lay (w h : Nat) : Nat → List (List Bool)
  | 0 => [[]]
  | t + 1 => (lay w h t).flatMap (ext w h)
theorem lay_ok {w h : Nat} : ∀ (t : Nat) (bs : List Bool), bs ∈ lay w h t → bs.length = t ∧ X bs ≤ w ∧ Y bs ≤ h
  | 0, bs, hb => by
    simp only [lay, List.mem_singleton] at hb
    subst hb
    exact ⟨rfl, by simp only [X]; omega, by simp only [Y]; omega⟩
  | t + 1, bs, hb => by
    obtain ⟨cs, hc, hb⟩ := List.mem_flatMap.mp hb
    obtain ⟨h1, h2, h3⟩ := lay_ok t cs hc
    unfold ext at hb
    rcases List.mem_append.mp hb with hb | hb
    · split at hb
      · rename_i hy
        simp only [List.mem_singleton] at hb
        subst hb
        simp only [List.length_append, X_app, Y_app, X, Y, ox_f, oy_f, List.length_cons, List.length_nil]
        omega
      · cases hb
    · split at hb
      · rename_i hy
        simp only [List.mem_singleton] at hb
        subst hb
        simp only [List.length_append, X_app, Y_app, X, Y, ox_t, oy_t, List.length_cons, List.length_nil]
        omega
      · cases hb
theorem ext_len (w h : Nat) (bs : List Bool) : (ext w h bs).length ≤ 2 := by
  unfold ext
  split <;> split <;> simp
theorem flat_len {w h : Nat} : ∀ xs : List (List Bool), (xs.flatMap (ext w h)).length ≤ 2 * xs.length
  | [] => Nat.le_refl _
  | x :: xs => by
    have i1 := flat_len (w := w) (h := h) xs
    have i2 := ext_len w h x
    simp only [List.flatMap_cons, List.length_append, List.length_cons]
    omega
theorem lay_len {w h : Nat} : ∀ t, (lay w h t).length ≤ 2 ^ t
  | 0 => Nat.le_refl _
  | t + 1 => by
    have i1 := lay_len (w := w) (h := h) t
    have i2 := flat_len (w := w) (h := h) (lay w h t)
    rw [lay, Nat.pow_succ]
    omega
def wD (bs : List Bool) : D := (D.tup (wy 0 0 (bs)))
abbrev zL : DE := .lc (.bin .Add (.var 6) (.tup [(.var 10)])) (.name 10) .seq [(.tup [(.tup [(.var 7), (.bin .Add (.var 8) (.con (.int 1)))]), (.tup [(.bin .Add (.var 7) (.con (.int 1))), (.var 8)])])] [(.and (.cmp .LtE (.ix (.var 10) (.con (.int 0))) (.ix (.var 2) (.con (.int 0)))) (.and (.cmp .LtE (.ix (.var 10) (.con (.int 1))) (.ix (.var 2) (.con (.int 1)))) (.cmp .NotIn (.var 10) (.ix (.var 0) (.con (.int 2))))))] [9, 10]
abbrev z1b : List DS := [.asg (.tup [(.name 7), (.name 8)]) (.ix (.var 6) (.neg (.con (.int 1)))), .ife (.cmp .Eq (.ix (.var 6) (.neg (.con (.int 1)))) (.var 2)) [.app (.var 5) (.var 6)] [.new 5 (.bin .Add (.var 5) zL)]]
abbrev zs : List DS := [.new 5 (.lst []), .for (.name 6) .seq [(.var 3)] z1b, .asg (.name 3) (.var 5)]
abbrev rz (w h : Nat) (v3 x4 x5 x6 x7 x8 : Option Sv) : DV.Loc := [some (.p (.tup [.int w, .int h, .tup []])), some (.p (M 0 0)), some (.p (M w h)), v3, x4, x5, x6, x7, x8, none, none]
def gZ (w h : Nat) (W : List D) : D → Option D
  | .tup [.int a, .int b] => if a ≤ w ∧ b ≤ h then some (.tup (W ++ [M a b])) else none
  | _ => none
theorem gZ_ext {w h : Nat} {bs : List Bool} (hx : X bs ≤ w) (hy : Y bs ≤ h) : [M (X bs) (Y bs + 1), M (X bs + 1) (Y bs)].filterMap (gZ w h (wy 0 0 bs)) = (ext w h bs).map wD := by
  have e1 : wD (bs ++ [false]) = .tup (wy 0 0 bs ++ [M (X bs) (Y bs + 1)]) := by
    unfold wD; rw [wy_snoc, ox_f, oy_f]; simp
  have e2 : wD (bs ++ [true]) = .tup (wy 0 0 bs ++ [M (X bs + 1) (Y bs)]) := by
    unfold wD; rw [wy_snoc, ox_t, oy_t]; simp
  unfold ext
  by_cases c1 : Y bs + 1 ≤ h <;> by_cases c2 : X bs + 1 ≤ w <;> simp [gZ, c1, c2, hx, hy, e1, e2]
theorem zL_ev {call : CallF} {w h : Nat} {bs : List Bool} {v3 x4 x5 : Option Sv} (hx : X bs ≤ w) (hy : Y bs ≤ h) (hl : bs.length ≤ 100) : evE call zL (rz w h v3 x4 x5 (some (.p (D.tup (wy 0 0 (bs))))) (some (.p (.int (X bs)))) (some (.p (.int (Y bs))))) S = .ok (.p (.lst ((ext w h bs).map wD))) S := by
  rw [← gZ_ext hx hy]
  have hz : (wy 0 0 bs).length + [M 0 0].length ≤ sizeLine := size1000 (by rw [wy_len]; simp; omega)
  generalize wy 0 0 bs = W at *
  generalize X bs = x at *
  generalize Y bs = y at *
  refine lc_pure (vs := [.p (.tup [M x (y + 1), M (x + 1) y])]) (ds := [M x (y + 1), M (x + 1) y]) (W := []) (by simp [pures]) rfl rfl _ (fun d hd => ?_) (size1000 (by simp))
  have key : ∀ a b : Int, lcTurn call (.bin .Add (.var 6) (.tup [(.var 10)])) (.name 10) [(.and (.cmp .LtE (.ix (.var 10) (.con (.int 0))) (.ix (.var 2) (.con (.int 0)))) (.and (.cmp .LtE (.ix (.var 10) (.con (.int 1))) (.ix (.var 2) (.con (.int 1)))) (.cmp .NotIn (.var 10) (.ix (.var 0) (.con (.int 2))))))] [9, 10] (rz w h v3 x4 x5 (some (.p (.tup W))) (some (.p (.int x))) (some (.p (.int y)))) (M a b) S = .ok (gZ w h W (M a b)) S := by
    intro a b
    have a2 : ∀ xs : List D, L2.atI [D.int w, .int h, .tup xs] 2 = some (.tup xs) := fun xs => rfl
    have ei : cmpD .NotIn (M a b) (.tup []) = some true := by simp only [cmpD, isIn_M0]; rfl
    have hb : binD .Add (.tup W) (.tup [M a b]) = some (.tup (W ++ [M a b])) := binD_cat (by simpa using hz)
    have hg : gZ w h W (M a b) = if a ≤ w ∧ b ≤ h then some (.tup (W ++ [M a b])) else none := rfl
    rw [hg]
    by_cases c1 : a ≤ w
    · by_cases c2 : b ≤ h
      · simp [lcTurn, atI0, atI1, a2, ei, hb, c1, c2, pures]
      · simp [lcTurn, atI0, atI1, a2, ei, hb, c1, c2, pures]
    · simp [lcTurn, atI0, atI1, a2, ei, hb, c1, pures]
  simp only [List.mem_cons, List.not_mem_nil, or_false] at hd
  rcases hd with rfl | rfl
  · exact key _ _
  · exact key _ _
theorem watch_app {T J : Store} {v : Sv} : watched (watchOf T v) (T ++ J) = true := by
  cases v with
  | p d => rfl
  | c i =>
    cases h : T[i]? with
    | none => simp [watchOf, h]
    | some c =>
      have hi := (List.getElem?_eq_some_iff.mp h).1
      simp [watchOf, watched, List.getElem?_append_left hi, h]
theorem der_app {T J : Store} {v : Sv} {d : D} (h : der T v = some d) : der (T ++ J) v = some d := by
  cases v with
  | p d => exact h
  | c i =>
    cases hi : T[i]? with
    | none => simp [der, hi] at h
    | some c =>
      have hl := (List.getElem?_eq_some_iff.mp hi).1
      rw [← h]
      simp [der, List.getElem?_append_left hl]
/-- one turn's inner loop -/
theorem z1_ev {call : CallF} {w h t : Nat} {T : Store} {v : Sv} {L : List (List Bool)} (hL : ∀ bs ∈ L, bs.length = t ∧ X bs ≤ w ∧ Y bs ≤ h) (ht : t < w + h) (ht2 : t ≤ 100) (hn : L.length ≤ 1000) (hv : der T v = some (.lst (L.map wD))) {x4 x6 x7 x8 : Option Sv} :
    ∃ J i y6 y7 y8, (((T ++ [.lst []]) ++ J)[i]? = some (Cell.lst ((L.flatMap (ext w h)).map wD))) ∧ evS call 600 (.for (.name 6) .seq [(.var 3)] z1b) (rz w h (some v) x4 (some (.c T.length)) x6 x7 x8) (T ++ [.lst []]) = .nx (rz w h (some v) x4 (some (.c i)) y6 y7 y8) ((T ++ [.lst []]) ++ J) := by
  rw [evS_for (vs := [v]) (S1 := T ++ [.lst []]) (ds := L.map wD) (W := watchOf (T ++ [.lst []]) v) (by simp) (by
    show (der (T ++ [.lst []]) v).bind _ = _
    rw [der_app hv]
    rfl)]
  generalize hr : forL _ _ _ _ _ _ = res
  obtain ⟨ρ', S', rfl, hI⟩ := all_of hr (fun j ρ St => ∃ J i y6 y7 y8, St = (T ++ [.lst []]) ++ J ∧ St[i]? = some (Cell.lst (((L.take j).flatMap (ext w h)).map wD)) ∧ ρ = rz w h (some v) x4 (some (.c i)) y6 y7 y8)
    ⟨[], T.length, x6, x7, x8, by simp, by simp, rfl⟩ (fun j ρ St hI => by
      obtain ⟨J, i, y6, y7, y8, rfl, _, _⟩ := hI
      exact watch_app) (fun j hj ρ St hI => by
      obtain ⟨J, i, y6, y7, y8, rfl, hi, rfl⟩ := hI
      have hj : j < L.length := by simpa using hj
      obtain ⟨q1, q2, q3⟩ := hL _ (List.getElem_mem hj)
      have hds : (L.map wD)[j]'(by simpa using hj) = (D.tup (wy 0 0 (L[j]))) := by simp [wD]
      have htk : (L.take (j + 1)).flatMap (ext w h) = (L.take j).flatMap (ext w h) ++ ext w h L[j] := by
        rw [← List.take_concat_get hj, List.concat_eq_append, List.flatMap_append]; simp
      have hlen := flat_len (w := w) (h := h) (L.take j)
      have hlen2 : (L.take j).length ≤ 1000 := by simp; omega
      have hel := ext_len w h L[j]
      rw [htk, List.map_append]
      generalize L[j] = bs at *
      generalize (L.take j).flatMap (ext w h) = acc at *
      have hxy := XY bs
      have hlast := atL (x := 0) (y := 0) (bs := bs)
      rw [Int.zero_add, Int.zero_add] at hlast
      have el := fun {v3 x4 x5} => zL_ev (call := call) (S := T ++ [.lst []] ++ J) (v3 := v3) (x4 := x4) (x5 := x5) q2 q3 (by omega)
      have hne : (decide (X bs = w) && decide (Y bs = h)) = false := by simp; omega
      refine ⟨rz w h (some v) x4 (some (.c i)) (some (.p (D.tup (wy 0 0 (bs))))) y7 y8, rz w h (some v) x4 (some (.c ((T ++ [Cell.lst []]) ++ J).length)) (some (.p (D.tup (wy 0 0 (bs))))) (some (.p (.int (X bs)))) (some (.p (.int (Y bs)))), ((T ++ [Cell.lst []]) ++ J) ++ [Cell.lst (acc.map wD ++ (ext w h bs).map wD)], by rw [hds]; rfl, .inl ?_, J ++ [Cell.lst (acc.map wD ++ (ext w h bs).map wD)], ((T ++ [Cell.lst []]) ++ J).length, _, _, _, by simp only [List.append_assoc], by simp, rfl⟩
      have hd : der (T ++ [.lst []] ++ J) (.c i) = some (.lst (acc.map wD)) := by
        simp only [der, hi]
      have hb : binD .Add (.lst (acc.map wD)) (.lst ((ext w h bs).map wD)) = some (.lst (acc.map wD ++ (ext w h bs).map wD)) := binD_catL (size1000 (by simp only [List.length_map]; omega))
      generalize T ++ [.lst []] ++ J = St at *
      generalize wy 0 0 bs = W at *
      generalize acc.map wD = A at *
      generalize (ext w h bs).map wD = B at *
      generalize X bs = x at *
      generalize Y bs = y at *
      refine (seqE (ρ' := rz w h (some v) x4 (some (.c i)) (some (.p (.tup W))) (some (.p (.int x))) (some (.p (.int y)))) (S' := St) ?_).trans ?_
      · simp [hlast]
      refine (seqE (ρ' := rz w h (some v) x4 (some (.c St.length)) (some (.p (.tup W))) (some (.p (.int x))) (some (.p (.int y)))) (S' := St ++ [.lst (A ++ B)]) ?_).trans rfl
      have el := el (v3 := some v) (x4 := x4) (x5 := some (.c i))
      have eb : evE call (.bin .Add (.var 5) zL) (rz w h (some v) x4 (some (.c i)) (some (.p (.tup W))) (some (.p (.int x))) (some (.p (.int y)))) St = .ok (.p (.lst (A ++ B))) St := by
        have e5 : evE call (.var 5) (rz w h (some v) x4 (some (.c i)) (some (.p (.tup W))) (some (.p (.int x))) (some (.p (.int y)))) St = .ok (.c i) St := by simp
        rw [evE_bin, e5, R.bind_ok, el, R.bind_ok]
        simp only [hd, der_p, hb, Option.map_some, R.of_some]
      have ec : evT call (.cmp .Eq (.ix (.var 6) (.neg (.con (.int 1)))) (.var 2)) (rz w h (some v) x4 (some (.c i)) (some (.p (.tup W))) (some (.p (.int x))) (some (.p (.int y)))) St = .ok false St := by
        simp [hlast, eqD_M]
        simpa using hne
      rw [evS_ife, ec, R.st_ok, if_neg (by decide)]
      simp only [evB_cons, evB_nil, evS_new, eb, R.st_ok, frsh, if_true, SR.seq_nx]
      rfl)
  obtain ⟨J, i, y6, y7, y8, rfl, hi, rfl⟩ := hI
  refine ⟨J, i, y6, y7, y8, ?_, rfl⟩
  rw [List.length_map, List.take_length] at hi
  exact hi
theorem s_ways {w h : Nat} (hwh : w + h ≤ 9) : run (k + 1) "_law_ways" [.p (.tup [.int w, .int h, .tup []]), .p (M 0 0), .p (M w h)] S = .ok (.p (.lst ((lay w h (w + h)).map wD))) S := by
  have hl : ∃ T v x4 x5 x6 x7 x8, S.length ≤ T.length ∧ T.take S.length = S ∧ der T v = some (.lst ((lay w h (w + h)).map wD)) ∧ evS (callF tb.tab 600 k) 600 (.for (.name 4) .rng [(.bin .Add (.ix (.var 0) (.con (.int 0))) (.ix (.var 0) (.con (.int 1))))] zs) (rz w h (some (.p (.lst [.tup [M 0 0]]))) none none none none none) S = .nx (rz w h (some v) x4 x5 x6 x7 x8) T := by
    rw [evS_for (vs := [.p (.int ((w + h : Nat) : Int))]) (S1 := S) (ds := (List.range (w + h)).map fun m => D.int (m : Nat)) (W := []) (by simp [atI0, atI1]) (items_rng (by omega))]
    generalize hr : forL _ _ _ _ _ _ = res
    obtain ⟨ρ', S', rfl, hI⟩ := all_of hr (fun j ρ St => ∃ v x4 x5 x6 x7 x8, S.length ≤ St.length ∧ St.take S.length = S ∧ der St v = some (.lst ((lay w h j).map wD)) ∧ ρ = rz w h (some v) x4 x5 x6 x7 x8)
      ⟨.p (.lst [.tup [M 0 0]]), none, none, none, none, none, Nat.le_refl _, List.take_length, rfl, rfl⟩ (fun _ _ _ _ => rfl) (fun j hj ρ St hI => by
        obtain ⟨v, x4, x5, x6, x7, x8, g1, g2, g3, rfl⟩ := hI
        rw [List.length_map, List.length_range] at hj
        have hn : (lay w h j).length ≤ 1000 := by
          have i1 := lay_len (w := w) (h := h) j
          have i2 : 2 ^ j ≤ 2 ^ 9 := Nat.pow_le_pow_right (by decide) (by omega)
          have i3 : (2 : Nat) ^ 9 = 512 := by decide
          omega
        obtain ⟨J, i, y6, y7, y8, hi, e1⟩ := z1_ev (call := callF tb.tab 600 k) (lay_ok (w := w) (h := h) j) hj (by omega) hn g3 (x4 := some (.p (.int (j : Nat)))) (x6 := x6) (x7 := x7) (x8 := x8)
        refine ⟨rz w h (some v) (some (.p (.int (j : Nat)))) x5 x6 x7 x8, rz w h (some (.c i)) (some (.p (.int (j : Nat)))) (some (.c i)) y6 y7 y8, (St ++ [.lst []]) ++ J, by simp, .inl ?_, .c i, _, _, _, _, _, by simp; omega, by rw [List.append_assoc, List.take_append_of_le_length g1, g2], ?_, rfl⟩
        · refine (seqE (ρ' := rz w h (some v) (some (.p (.int (j : Nat)))) (some (.c St.length)) x6 x7 x8) (S' := St ++ [.lst []]) (by simp [pures, frsh])).trans ?_
          refine (seqE e1).trans ?_
          simp
        · simp only [der, hi]
          rfl)
    obtain ⟨v, x4, x5, x6, x7, x8, g1, g2, g3, rfl⟩ := hI
    rw [List.length_map, List.length_range] at g3
    exact ⟨S', v, x4, x5, x6, x7, x8, g1, g2, g3, rfl⟩
  obtain ⟨T, v, x4, x5, x6, x7, x8, g1, g2, g3, hl⟩ := hl
  have hok := lay_ok (w := w) (h := h) (w + h)
  have hn : (lay w h (w + h)).length ≤ 1000 := by
    have i1 := lay_len (w := w) (h := h) (w + h)
    have i2 : 2 ^ (w + h) ≤ 2 ^ 9 := Nat.pow_le_pow_right (by decide) hwh
    have i3 : (2 : Nat) ^ 9 = 512 := by decide
    omega
  generalize lay w h (w + h) = L at *
  have e : evB (callF tb.tab 600 k) 600 d__law_ways.df.body (rz w h none none none none none none) S = .ret (.p (.lst (L.map wD))) T := by
    refine (seqE (ρ' := rz w h (some (.p (.lst [.tup [M 0 0]]))) none none none none none) (S' := S) ?_).trans ?_
    · have a2 : ∀ xs : List D, L2.atI [D.int w, .int h, .tup xs] 2 = some (.tup xs) := fun xs => rfl
      have ei : cmpD .NotIn (M 0 0) (.tup []) = some true := by simp only [cmpD, isIn_M0]; rfl
      simp [a2, ei, pures]
    refine (seqE hl).trans ?_
    refine seqR ?_
    have lc : evE (callF tb.tab 600 k) (.lc (.var 6) (.name 6) .seq [(.var 3)] [(.cmp .Eq (.ix (.var 6) (.neg (.con (.int 1)))) (.var 2))] [9, 6]) (rz w h (some v) x4 x5 x6 x7 x8) T = .ok (.p (.lst ((L.map wD).filterMap some))) T := by
      refine lc_pure (vs := [v]) (ds := L.map wD) (W := watchOf T v) (by simp) (by
        show (der T v).bind _ = _
        rw [g3]
        rfl) (by have := watch_app (T := T) (J := []) (v := v); rwa [List.append_nil] at this) _ (fun d hd => ?_) (size1000 (by simp; omega))
      obtain ⟨bs, hb, rfl⟩ := List.mem_map.mp hd
      obtain ⟨q1, q2, q3⟩ := hok bs hb
      have hxy := XY bs
      have hlast := atL (x := 0) (y := 0) (bs := bs)
      rw [Int.zero_add, Int.zero_add, show X bs = w by omega, show Y bs = h by omega] at hlast
      unfold wD
      generalize wy 0 0 bs = W at *
      simp [lcTurn, hlast, eqD_M]
    rw [evS_ret, lc, R.st_ok, List.filterMap_some]
  have r := run_ret (T := tb.tab) (wf := 600) (k := k) (x := "_law_ways") (d := d__law_ways.df) (vs := [.p (.tup [.int w, .int h, .tup []]), .p (M 0 0), .p (M w h)]) (S := S) (by kernel_rfl) rfl e
  rw [g2] at r
  exact r
end Lk34

set_option Elab.async false
set_option linter.all false
set_option maxRecDepth 100000
set_option maxHeartbeats 4000000
namespace Lk34
open PySem DV
variable {k : Nat} {S : Store}
/-! ### small sides, counted -/
def goN (f : Nat → Int → Int) : Nat → Int → Int
  | 0, k => if k = 0 then 1 else 0
  | h + 1, k => f (h + 1) (k - ((h + 1 : Nat) : Int)) + goN f h k
def Nf : Nat → Nat → Int → Int
  | 0, _, k => if k = 0 then 1 else 0
  | w + 1, h, k => goN (Nf w) h k
theorem N_Nf : ∀ (w h : Nat) (k : Int), N w h k = Nf w h k
  | 0, h, k => by rw [N0]; rfl
  | w + 1, h, k => by
    show _ = goN (Nf w) h k
    have ih := N_Nf w
    induction h generalizing k with
    | zero => rw [Nh0]; rfl
    | succ h ihh => rw [R1, ih, ihh]; rfl
theorem small_areas : ∀ w < 6, ∀ h < 5, ∀ k : Nat, k < w * h + 2 → ((((lay w h (w + h)).map (ar 0)).count (k : Int) : Nat) : Int) = Nf w h (k : Int) := by decide +kernel
theorem small_turns : ∀ w < 6, ∀ h < 5, ∀ k : Nat, k < w + h + 2 → ((((lay w h (w + h)).map fun bs => (tr bs : Int)).count (k : Int) : Nat) : Int) = CT w h k := by decide +kernel
theorem small_any : ∀ w < 6, ∀ h < 5, lay w h (w + h) ≠ [] := by decide +kernel
theorem lay_len9 {w h : Nat} (hwh : w + h ≤ 9) : (lay w h (w + h)).length ≤ 512 := by
  have i1 := lay_len (w := w) (h := h) (w + h)
  have i2 : 2 ^ (w + h) ≤ 2 ^ 9 := Nat.pow_le_pow_right (by decide) hwh
  have i3 : (2 : Nat) ^ 9 = 512 := by decide
  omega
/-! ### a random way -/
abbrev y0 : DS := .asg (.tup [(.name 5), (.name 6)]) (.ix (.var 3) (.neg (.con (.int 1))))
abbrev y1 : DS := .asg (.name 7) (.or (.cmp .Eq (.var 6) (.ix (.var 2) (.con (.int 1)))) (.and (.cmp .Lt (.var 5) (.ix (.var 2) (.con (.int 0)))) (.cmp .Eq (.call "_law_roll" false [(.var 0), (.con (.int 2))]) (.con (.int 0)))))
abbrev y2 : DS := .asg (.name 3) (.bin .Add (.var 3) (.tup [(.ife (.var 7) (.tup [(.bin .Add (.var 5) (.con (.int 1))), (.var 6)]) (.tup [(.var 5), (.bin .Add (.var 6) (.con (.int 1)))]))]))
abbrev ys : List DS := [y0, y1, y2]
abbrev ry (w h : Nat) (v3 x4 x5 x6 x7 : Option Sv) : DV.Loc := [some (.c 0), some (.p (M 0 0)), some (.p (M w h)), v3, x4, x5, x6, x7]
theorem y1_ev {w h : Nat} {x y : Int} (hS : Has S) (hx : x ≤ w) (hy : y ≤ h) (hlt : x + y < w + h) {v3 x4 x7 : Option Sv} : ∃ b S', Up S S' ∧ (b = true → x < w) ∧ (b = false → y < h) ∧ evS (callF tb.tab 600 (k + 1)) 600 y1 (ry w h v3 x4 (some (.p (.int x))) (some (.p (.int y))) x7) S = .nx (ry w h v3 x4 (some (.p (.int x))) (some (.p (.int y))) (some (.p (.bl b)))) S' := by
  by_cases c1 : y = h
  · refine ⟨true, S, Up.refl hS, fun _ => by omega, fun z => by simp at z, ?_⟩
    simp [atI1, eqD_int, c1]
  · by_cases c2 : x < w
    · obtain ⟨v, S', v0, v1, u, e⟩ := s_roll (wf := 600) (k := k) lk_roll (m := 2) (by omega) (by omega) hS
      refine ⟨decide (v = 0), S', u, fun _ => c2, fun _ => by omega, ?_⟩
      simp [atI0, atI1, eqD_int, c1, c2, e]
    · refine ⟨false, S, Up.refl hS, fun z => by simp at z, fun _ => by omega, ?_⟩
      simp [atI0, atI1, eqD_int, c1, c2]
theorem s_random {w h : Nat} (hwh : w + h ≤ 100) (hS : Has S) : ∃ bs S', X bs = w ∧ Y bs = h ∧ Up S S' ∧ run (k + 2) "_law_random_way" [.c 0, .p (M 0 0), .p (M w h)] S = .ok (.p (D.tup (wy 0 0 (bs)))) S' := by
  have hl : ∃ bs S' x4 x5 x6 x7, X bs = w ∧ Y bs = h ∧ Up S S' ∧ evS (callF tb.tab 600 (k + 1)) 600 (.for (.name 4) .rng [(.bin .Sub (.bin .Add (.bin .Sub (.ix (.var 2) (.con (.int 0))) (.ix (.var 1) (.con (.int 0)))) (.ix (.var 2) (.con (.int 1)))) (.ix (.var 1) (.con (.int 1))))] ys) (ry w h (some (.p (D.tup (wy 0 0 ([]))))) none none none none) S = .nx (ry w h (some (.p (D.tup (wy 0 0 (bs))))) x4 x5 x6 x7) S' := by
    rw [evS_for (vs := [.p (.int ((w + h : Nat) : Int))]) (S1 := S) (ds := (List.range (w + h)).map fun m => D.int (m : Nat)) (W := []) (by simp [atI0, atI1]) (items_rng (by omega))]
    generalize hr : forL _ _ _ _ _ _ = res
    obtain ⟨ρ', S', rfl, hI⟩ := all_of hr (fun j ρ St => Up S St ∧ ∃ bs x4 x5 x6 x7, bs.length = j ∧ X bs ≤ w ∧ Y bs ≤ h ∧ ρ = ry w h (some (.p (D.tup (wy 0 0 (bs))))) x4 x5 x6 x7)
      ⟨Up.refl hS, [], none, none, none, none, rfl, by simp only [X]; omega, by simp only [Y]; omega, rfl⟩ (fun _ _ _ _ => rfl) (fun j hj ρ St hI => by
        obtain ⟨u, bs, x4, x5, x6, x7, g1, g2, g3, rfl⟩ := hI
        rw [List.length_map, List.length_range] at hj
        have hxy := XY bs
        obtain ⟨b, S2, u2, b1, b2, e1⟩ := y1_ev (k := k) (u.has hS) (w := w) (h := h) (x := X bs) (y := Y bs) g2 g3 (by omega) (v3 := some (.p (D.tup (wy 0 0 (bs))))) (x4 := some (.p (.int (j : Nat)))) (x7 := x7)
        refine ⟨ry w h (some (.p (D.tup (wy 0 0 (bs))))) (some (.p (.int (j : Nat)))) x5 x6 x7, ry w h (some (.p (D.tup (wy 0 0 (bs ++ [b]))))) (some (.p (.int (j : Nat)))) (some (.p (.int (X bs)))) (some (.p (.int (Y bs)))) (some (.p (.bl b))), S2, by simp, .inl ?_, u.trans u2, bs ++ [b], _, _, _, _, by simp [g1], ?_, ?_, rfl⟩
        · have hlast := atL (x := 0) (y := 0) (bs := bs)
          rw [Int.zero_add, Int.zero_add] at hlast
          refine (seqE (ρ' := ry w h (some (.p (D.tup (wy 0 0 (bs))))) (some (.p (.int (j : Nat)))) (some (.p (.int (X bs)))) (some (.p (.int (Y bs)))) x7) (S' := St) ?_).trans ?_
          · generalize wy 0 0 bs = W at *
            simp [hlast]
          refine (seqE e1).trans ?_
          have hz : (wy 0 0 bs).length + 1 ≤ sizeLine := size1000 (by rw [wy_len]; omega)
          have hb := fun z => binD_cat (xs := wy 0 0 bs) (ys := [z]) hz
          rw [wy_snoc]
          generalize wy 0 0 bs = W at *
          cases b
          · simp [pures, hb, ox_f, oy_f]
          · simp [pures, hb, ox_t, oy_t]
        · rw [X_app]
          cases b
          · simp only [X, ox_f]; omega
          · have := b1 rfl
            simp only [X, ox_t]; omega
        · rw [Y_app]
          cases b
          · have := b2 rfl
            simp only [Y, oy_f]; omega
          · simp only [Y, oy_t]; omega)
    obtain ⟨u, bs, x4, x5, x6, x7, g1, g2, g3, rfl⟩ := hI
    rw [List.length_map, List.length_range] at g1
    have hxy := XY bs
    exact ⟨bs, S', x4, x5, x6, x7, by omega, by omega, u, rfl⟩
  obtain ⟨bs, S', x4, x5, x6, x7, hX, hY, u, hl⟩ := hl
  refine ⟨bs, S', hX, hY, u, ?_⟩
  have e : evB (callF tb.tab 600 (k + 1)) 600 d__law_random_way.df.body (ry w h none none none none none) S = .ret (.p (D.tup (wy 0 0 (bs)))) S' := by
    refine (seqE (ρ' := ry w h (some (.p (D.tup (wy 0 0 ([]))))) none none none none) (S' := S) (by simp [pures, wy])).trans ?_
    refine (seqE hl).trans ?_
    simp
  have r := run_ret (T := tb.tab) (wf := 600) (k := k + 1) (x := "_law_random_way") (d := d__law_random_way.df) (vs := [.c 0, .p (M 0 0), .p (M w h)]) (S := S) (by kernel_rfl) rfl e
  rw [u.take] at r
  exact r
end Lk34

set_option Elab.async false
set_option linter.all false
set_option maxRecDepth 100000
set_option maxHeartbeats 4000000
namespace Lk34
open PySem DV
variable {k : Nat} {S : Store}
abbrev q0 : DS := .asg (.name 3) (.call "_law_ways" false [(.tup [(.var 1), (.var 2), (.tup [])]), (.tup [(.con (.int 0)), (.con (.int 0))]), (.tup [(.var 1), (.var 2)])])
abbrev q1 : DS := .asg (.tup [(.name 5), (.name 6)]) (.tup [(.lc (.call "_law_area" false [(.var 4)]) (.name 4) .seq [(.var 3)] [] [9, 4]), (.lc (.call "_law_turns" false [(.var 4)]) (.name 4) .seq [(.var 3)] [] [9, 4])])
abbrev q2 : DS := .asg (.name 4) (.call "_law_some" false [(.var 0), (.var 3)])
abbrev q3 : DS := .ife (.not (.call "_law_like" false [(.lst [(.call "area_of" false [(.var 4)]), (.call "count_turns_of" false [(.var 4)])]), (.lst [(.call "_law_area" false [(.var 4)]), (.call "_law_turns" false [(.var 4)])])])) [.ret (.con (.bl false))] []
abbrev q4 : DS := .ife (.not (.call "_law_like" false [(.lc (.call "count_area" false [(.var 1), (.var 2), (.var 7)]) (.name 7) .rng [(.bin .Add (.bin .Mult (.var 1) (.var 2)) (.con (.int 2)))] [] [9, 7]), (.lc (.cnt (.var 5) (.var 7)) (.name 7) .rng [(.bin .Add (.bin .Mult (.var 1) (.var 2)) (.con (.int 2)))] [] [9, 7])])) [.ret (.con (.bl false))] []
abbrev q5 : DS := .ife (.not (.call "_law_like" false [(.lc (.call "count_turns" false [(.var 1), (.var 2), (.var 7)]) (.name 7) .rng [(.bin .Add (.bin .Add (.var 1) (.var 2)) (.con (.int 2)))] [] [9, 7]), (.lc (.cnt (.var 6) (.var 7)) (.name 7) .rng [(.bin .Add (.bin .Add (.var 1) (.var 2)) (.con (.int 2)))] [] [9, 7])])) [.ret (.con (.bl false))] []
abbrev qq0 : DS := .asg (.name 8) (.call "way_of_area" false [(.var 1), (.var 2), (.var 7)])
abbrev qq1 : DS := .ife (.or (.cmp .NotEq (.cmp .Is (.var 8) (.con .non)) (.cmp .Gt (.var 7) (.bin .Mult (.var 1) (.var 2)))) (.and (.cmp .IsNot (.var 8) (.con .non)) (.or (.not (.call "_law_is_way" false [(.tup [(.var 1), (.var 2), (.tup [])]), (.tup [(.con (.int 0)), (.con (.int 0))]), (.tup [(.var 1), (.var 2)]), (.var 8)])) (.cmp .NotEq (.call "_law_area" false [(.var 8)]) (.var 7))))) [.ret (.con (.bl false))] []
abbrev qqs : List DS := [qq0, qq1]
abbrev q6 : DS := .for (.name 7) .seq [(.tup [(.con (.int 0)), (.bin .Mult (.var 1) (.var 2)), (.bin .Add (.bin .Mult (.var 1) (.var 2)) (.con (.int 1))), (.call "_law_roll" false [(.var 0), (.bin .Add (.bin .Mult (.var 1) (.var 2)) (.con (.int 1)))])])] qqs
abbrev rq (w h : Nat) (x3 x4 x5 x6 x7 x8 : Option Sv) : DV.Loc := [some (.c 0), some (.p (.int w)), some (.p (.int h)), x3, x4, x5, x6, x7, x8, none]
theorem qq_ev {w h a : Nat} (hw : w ≤ 30) (hh : h ≤ 30) (ha : a ≤ 1000) {x3 x4 x5 x6 x8 : Option Sv} : ∃ y, evB (callF tb.tab 600 (k + 4)) 600 qqs (rq w h x3 x4 x5 x6 (some (.p (.int a))) x8) S = .nx (rq w h x3 x4 x5 x6 (some (.p (.int a))) y) S := by
  obtain ⟨f1, f2⟩ := s_wayof (k := k) (S := S) hw hh ha
  have hm : binD .Mult (.int (w : Int)) (.int (h : Int)) = some (.int ((w * h : Nat) : Int)) := binD_mul (.inl (small_of (by omega) (by omega)))
  simp only [run] at f1 f2
  by_cases hc : w * h < a
  · have f := f1 hc
    refine ⟨some (.p .non), ?_⟩
    have hc2 : ((w * h : Nat) : Int) < a := by omega
    generalize w * h = m at *
    simp [f, hm, hc, eqD_bl]
  · obtain ⟨bs, hX, hY, hA, f⟩ := f2 (by omega)
    refine ⟨some (.p (D.tup (wy 0 0 (bs)))), ?_⟩
    have hxy := XY bs
    have e1 := s_isway (k := k) (S := S) hX hY (by omega)
    have e2 := s_larea (k := k + 3) (S := S) (bs := bs) (by omega)
    rw [hA] at e2
    simp only [run] at e1 e2
    generalize w * h = m at *
    generalize wy 0 0 bs = W at *
    simp [f, hm, hc, eqD_bl, e1, e2, eqD_int, pures]
theorem okD_range {n m : Nat} {f : Nat → Int} (hm : m ≤ 1000) : okD (n + 1) (.lst ((List.range m).map fun i => D.int (f i))) = true := by
  refine okD_lstI (by simp; omega) fun d hd => ?_
  obtain ⟨i, _, rfl⟩ := List.mem_map.mp hd
  cases n <;> rfl
theorem s_right {w h : Nat} (hw : w < 6) (hh : h < 5) (hS : Has S) : ∃ S', Up S S' ∧ run (k + 8) "_law_right" [.c 0, .p (.int w), .p (.int h)] S = .ok (.p (.bl true)) S' := by
  have e0 := s_ways (k := k + 6) (S := S) (w := w) (h := h) (by omega)
  have hL := lay_ok (w := w) (h := h) (w + h)
  have hLn := lay_len9 (w := w) (h := h) (by omega)
  have hne := small_any w hw h hh
  have cA := small_areas w hw h hh
  have cT := small_turns w hw h hh
  have hM : w * h ≤ 20 := Nat.mul_le_mul (show w ≤ 5 by omega) (show h ≤ 4 by omega)
  have hm : binD .Mult (.int (w : Int)) (.int (h : Int)) = some (.int ((w * h : Nat) : Int)) := binD_mul (.inl (small_of (by omega) (by omega)))
  generalize lay w h (w + h) = L at *
  obtain ⟨d, S1, hd, u1, e2⟩ := s_some (wf := 600) (k := k + 5) lk_roll lk_some (xs := L.map wD) (by simpa using hne) (by simp; omega) hS
  obtain ⟨bs, hb, rfl⟩ := List.mem_map.mp hd
  obtain ⟨g1, g2, g3⟩ := hL bs hb
  have e3 := s_area_of (k := k + 2) (S := S1) (bs := bs) (by omega) (by omega)
  have e4 := s_turns_of (k := k + 2) (S := S1) (bs := bs) (by omega) (by omega)
  have e5 := s_larea (k := k + 6) (S := S1) (bs := bs) (by omega)
  have e6 := s_lturns (k := k + 6) (S := S1) (bs := bs) (by omega)
  have e7 := like_same (T := tb.tab) (wf := 600) lk_sort lk_like (S := S1) (n := 1) (k := k + 7) (by omega) (x := .lst [.int (ar 0 bs), .int (tr bs)]) rfl
  obtain ⟨v, S2, v0, v1, u2, e8⟩ := s_roll (wf := 600) (k := k + 6) lk_roll (m := ((w * h : Nat) : Int) + 1) (by omega) (by omega) (u1.has hS)
  obtain ⟨a, rfl⟩ := Int.eq_ofNat_of_zero_le v0
  refine ⟨S2, u1.trans u2, ?_⟩
  simp only [run] at e0 e3 e4 e5 e6
  have hsz : (L.map wD).length ≤ sizeLine := size1000 (by simp; omega)
  have lc1 : ∀ {x4 x5 x6}, evE (callF tb.tab 600 (k + 7)) (.lc (.call "_law_area" false [(.var 4)]) (.name 4) .seq [(.var 3)] [] [9, 4]) (rq w h (some (.p (.lst (L.map wD)))) x4 x5 x6 none none) S = .ok (.p (.lst ((L.map (ar 0)).map .int))) S := by
    intro x4 x5 x6
    have hf : ∀ bs ∈ L, callF tb.tab 600 (k + 7) "_law_area" [.p (wD bs)] S = .ok (.p (.int (ar 0 bs))) S := fun bs hb => s_larea (k := k + 6) (S := S) (bs := bs) (by have := hL bs hb; omega)
    refine (lc_map (vs := [.p (.lst (L.map wD))]) (ds := L.map wD) (W := []) (f := fun d => match callF tb.tab 600 (k + 7) "_law_area" [.p d] S with
      | .ok (.p y) _ => y
      | _ => .non) (by simp) rfl rfl (fun d hd => ?_) hsz).trans ?_
    · obtain ⟨bs, hb, rfl⟩ := List.mem_map.mp hd
      simp [lcTurn, hf bs hb]
    · rw [List.map_map, List.map_map]
      refine congrArg (fun z => R.ok (Sv.p (D.lst z)) S) (List.map_congr_left fun bs hb => ?_)
      simp only [Function.comp_apply, hf bs hb]
  have lc2 : ∀ {x4 x5 x6}, evE (callF tb.tab 600 (k + 7)) (.lc (.call "_law_turns" false [(.var 4)]) (.name 4) .seq [(.var 3)] [] [9, 4]) (rq w h (some (.p (.lst (L.map wD)))) x4 x5 x6 none none) S = .ok (.p (.lst ((L.map fun bs => (tr bs : Int)).map .int))) S := by
    intro x4 x5 x6
    have hf : ∀ bs ∈ L, callF tb.tab 600 (k + 7) "_law_turns" [.p (wD bs)] S = .ok (.p (.int (tr bs))) S := fun bs hb => s_lturns (k := k + 6) (S := S) (bs := bs) (by have := hL bs hb; omega)
    refine (lc_map (vs := [.p (.lst (L.map wD))]) (ds := L.map wD) (W := []) (f := fun d => match callF tb.tab 600 (k + 7) "_law_turns" [.p d] S with
      | .ok (.p y) _ => y
      | _ => .non) (by simp) rfl rfl (fun d hd => ?_) hsz).trans ?_
    · obtain ⟨bs, hb, rfl⟩ := List.mem_map.mp hd
      simp [lcTurn, hf bs hb]
    · rw [List.map_map, List.map_map]
      refine congrArg (fun z => R.ok (Sv.p (D.lst z)) S) (List.map_congr_left fun bs hb => ?_)
      simp only [Function.comp_apply, hf bs hb]
  generalize L.map wD = WL at *
  generalize hAL : L.map (ar 0) = AL at *
  generalize hTL : (L.map fun bs => (tr bs : Int)) = TL at *
  have lc3 : evE (callF tb.tab 600 (k + 7)) (.lc (.call "count_area" false [(.var 1), (.var 2), (.var 7)]) (.name 7) .rng [(.bin .Add (.bin .Mult (.var 1) (.var 2)) (.con (.int 2)))] [] [9, 7]) (rq w h (some (.p (.lst WL))) (some (.p (wD bs))) (some (.p (.lst (AL.map .int)))) (some (.p (.lst (TL.map .int)))) none none) S1 = .ok (.p (.lst ((List.range (w * h + 2)).map fun i => D.int (N w h (i : Nat))))) S1 := by
    refine (lc_map (vs := [.p (.int ((w * h + 2 : Nat) : Int))]) (ds := (List.range (w * h + 2)).map fun m => D.int (m : Nat)) (W := []) (f := fun d => match d with
      | .int i => .int (N w h i)
      | _ => .non) (by
        generalize w * h = m at *
        simp [hm]) (items_rng (by omega)) rfl (fun d hd => ?_) (size1000 (by simp; omega))).trans ?_
    · obtain ⟨i, hi, rfl⟩ := List.mem_map.mp hd
      have hi := List.mem_range.mp hi
      have e := s_carea (k := k + 3) (S := S1) (w := w) (h := h) (a := i) (by omega) (by omega) (by omega)
      simp only [run] at e
      simp [lcTurn, e]
    · rw [List.map_map]; rfl
  have lc4 : evE (callF tb.tab 600 (k + 7)) (.lc (.cnt (.var 5) (.var 7)) (.name 7) .rng [(.bin .Add (.bin .Mult (.var 1) (.var 2)) (.con (.int 2)))] [] [9, 7]) (rq w h (some (.p (.lst WL))) (some (.p (wD bs))) (some (.p (.lst (AL.map .int)))) (some (.p (.lst (TL.map .int)))) none none) S1 = .ok (.p (.lst ((List.range (w * h + 2)).map fun i => D.int (N w h (i : Nat))))) S1 := by
    refine (lc_map (vs := [.p (.int ((w * h + 2 : Nat) : Int))]) (ds := (List.range (w * h + 2)).map fun m => D.int (m : Nat)) (W := []) (f := fun d => match d with
      | .int i => .int ((AL.count i : Nat) : Int)
      | _ => .non) (by
        generalize w * h = m at *
        simp [hm]) (items_rng (by omega)) rfl (fun d hd => ?_) (size1000 (by simp; omega))).trans ?_
    · obtain ⟨i, hi, rfl⟩ := List.mem_map.mp hd
      have hin := intsOf_ints AL
      generalize AL.map D.int = Z at *
      simp [lcTurn, hin]
    · rw [List.map_map]
      refine congrArg (fun z => R.ok (Sv.p (D.lst z)) S1) (List.map_congr_left fun i hi => ?_)
      show D.int _ = D.int _
      rw [cA i (List.mem_range.mp hi), N_Nf]
  have lc5 : evE (callF tb.tab 600 (k + 7)) (.lc (.call "count_turns" false [(.var 1), (.var 2), (.var 7)]) (.name 7) .rng [(.bin .Add (.bin .Add (.var 1) (.var 2)) (.con (.int 2)))] [] [9, 7]) (rq w h (some (.p (.lst WL))) (some (.p (wD bs))) (some (.p (.lst (AL.map .int)))) (some (.p (.lst (TL.map .int)))) none none) S1 = .ok (.p (.lst ((List.range (w + h + 2)).map fun i => D.int (CT w h i)))) S1 := by
    refine (lc_map (vs := [.p (.int ((w + h + 2 : Nat) : Int))]) (ds := (List.range (w + h + 2)).map fun m => D.int (m : Nat)) (W := []) (f := fun d => match d with
      | .int i => .int (CT w h i.toNat)
      | _ => .non) (by simp) (items_rng (by omega)) rfl (fun d hd => ?_) (size1000 (by simp; omega))).trans ?_
    · obtain ⟨i, hi, rfl⟩ := List.mem_map.mp hd
      have hi := List.mem_range.mp hi
      have e := s_cturns (k := k + 3) (S := S1) (w := w) (h := h) (t := i) (by omega) (by omega) (by omega)
      simp only [run] at e
      simp [lcTurn, e]
    · rw [List.map_map]; rfl
  have lc6 : evE (callF tb.tab 600 (k + 7)) (.lc (.cnt (.var 6) (.var 7)) (.name 7) .rng [(.bin .Add (.bin .Add (.var 1) (.var 2)) (.con (.int 2)))] [] [9, 7]) (rq w h (some (.p (.lst WL))) (some (.p (wD bs))) (some (.p (.lst (AL.map .int)))) (some (.p (.lst (TL.map .int)))) none none) S1 = .ok (.p (.lst ((List.range (w + h + 2)).map fun i => D.int (CT w h i)))) S1 := by
    refine (lc_map (vs := [.p (.int ((w + h + 2 : Nat) : Int))]) (ds := (List.range (w + h + 2)).map fun m => D.int (m : Nat)) (W := []) (f := fun d => match d with
      | .int i => .int ((TL.count i : Nat) : Int)
      | _ => .non) (by simp) (items_rng (by omega)) rfl (fun d hd => ?_) (size1000 (by simp; omega))).trans ?_
    · obtain ⟨i, hi, rfl⟩ := List.mem_map.mp hd
      have hin := intsOf_ints TL
      generalize TL.map D.int = Z at *
      simp [lcTurn, hin]
    · rw [List.map_map]
      refine congrArg (fun z => R.ok (Sv.p (D.lst z)) S1) (List.map_congr_left fun i hi => ?_)
      show D.int _ = D.int _
      rw [cT i (List.mem_range.mp hi)]
  have k1 := like_same (T := tb.tab) (wf := 600) lk_sort lk_like (S := S1) (n := 1) (k := k + 7) (by omega) (okD_range (n := 0) (m := w * h + 2) (f := fun i => N w h (i : Nat)) (by omega))
  have k2 := like_same (T := tb.tab) (wf := 600) lk_sort lk_like (S := S1) (n := 1) (k := k + 7) (by omega) (okD_range (n := 0) (m := w + h + 2) (f := fun i => CT w h i) (by omega))
  have hlast : ∃ x7 x8, evS (callF tb.tab 600 (k + 7)) 600 q6 (rq w h (some (.p (.lst WL))) (some (.p (wD bs))) (some (.p (.lst (AL.map .int)))) (some (.p (.lst (TL.map .int)))) none none) S1 = .nx (rq w h (some (.p (.lst WL))) (some (.p (wD bs))) (some (.p (.lst (AL.map .int)))) (some (.p (.lst (TL.map .int)))) x7 x8) S2 := by
    have ei : itemsOf .seq [.p (.tup [.int ((0 : Nat) : Int), .int ((w * h : Nat) : Int), .int ((w * h + 1 : Nat) : Int), .int (a : Nat)])] S2 = some ([.int ((0 : Nat) : Int), .int ((w * h : Nat) : Int), .int ((w * h + 1 : Nat) : Int), .int (a : Nat)], []) := rfl
    rw [evS_for (vs := [.p (.tup [.int ((0 : Nat) : Int), .int ((w * h : Nat) : Int), .int ((w * h + 1 : Nat) : Int), .int (a : Nat)])]) (S1 := S2) (by
      clear cA cT k1 k2 lc3 lc4 lc5 lc6 lc1 lc2
      generalize w * h = m at *
      generalize AL.map D.int = Z1 at *
      generalize TL.map D.int = Z2 at *
      simp [hm, e8, pures]) ei]
    generalize hr : forL _ _ _ _ _ _ = res
    obtain ⟨ρ', S', rfl, hI⟩ := all_of hr (fun j ρ St => St = S2 ∧ ∃ x7 x8, ρ = rq w h (some (.p (.lst WL))) (some (.p (wD bs))) (some (.p (.lst (AL.map .int)))) (some (.p (.lst (TL.map .int)))) x7 x8)
      ⟨rfl, none, none, rfl⟩ (fun _ _ _ _ => rfl) (fun j hj ρ St hI => by
        obtain ⟨rfl, x7, x8, rfl⟩ := hI
        have hd : ∃ n : Nat, n ≤ 1000 ∧ [D.int ((0 : Nat) : Int), .int ((w * h : Nat) : Int), .int ((w * h + 1 : Nat) : Int), .int (a : Nat)][j] = .int (n : Nat) := by
          have hj4 : j < 4 := hj
          match j, hj4 with
          | 0, _ => exact ⟨0, by omega, rfl⟩
          | 1, _ => exact ⟨w * h, by omega, rfl⟩
          | 2, _ => exact ⟨w * h + 1, by omega, rfl⟩
          | 3, _ => exact ⟨a, by omega, rfl⟩
        obtain ⟨n, hn, hd⟩ := hd
        obtain ⟨y, e⟩ := qq_ev (k := k + 3) (S := St) (w := w) (h := h) (a := n) (by omega) (by omega) hn (x3 := some (.p (.lst WL))) (x4 := some (.p (wD bs))) (x5 := some (.p (.lst (AL.map .int)))) (x6 := some (.p (.lst (TL.map .int)))) (x8 := x8)
        exact ⟨_, _, St, by rw [hd]; rfl, .inl e, rfl, _, _, rfl⟩)
    obtain ⟨rfl, x7, x8, rfl⟩ := hI
    exact ⟨x7, x8, rfl⟩
  obtain ⟨x7, x8, hlast⟩ := hlast
  have e : evB (callF tb.tab 600 (k + 7)) 600 d__law_right.df.body (rq w h none none none none none none) S = .ret (.p (.bl true)) S2 := by
    refine (seqE (ρ' := rq w h (some (.p (.lst WL))) none none none none none) (S' := S) (by simp [e0, pures])).trans ?_
    refine (seqE (ρ' := rq w h (some (.p (.lst WL))) none (some (.p (.lst (AL.map .int)))) (some (.p (.lst (TL.map .int)))) none none) (S' := S) ?_).trans ?_
    · simp [lc1, lc2, pures]
    refine (seqE (ρ' := rq w h (some (.p (.lst WL))) (some (.p (wD bs))) (some (.p (.lst (AL.map .int)))) (some (.p (.lst (TL.map .int)))) none none) (S' := S1) (by simp [e2])).trans ?_
    refine (seqE (ρ' := rq w h (some (.p (.lst WL))) (some (.p (wD bs))) (some (.p (.lst (AL.map .int)))) (some (.p (.lst (TL.map .int)))) none none) (S' := S1) ?_).trans ?_
    · unfold wD
      generalize wy 0 0 bs = W at *
      simp [e3, e4, e5, e6, pures, e7]
    refine (seqE (ρ' := rq w h (some (.p (.lst WL))) (some (.p (wD bs))) (some (.p (.lst (AL.map .int)))) (some (.p (.lst (TL.map .int)))) none none) (S' := S1) ?_).trans ?_
    · simp [lc3, lc4, k1]
    refine (seqE (ρ' := rq w h (some (.p (.lst WL))) (some (.p (wD bs))) (some (.p (.lst (AL.map .int)))) (some (.p (.lst (TL.map .int)))) none none) (S' := S1) ?_).trans ?_
    · simp [lc5, lc6, k2]
    refine (seqE hlast).trans ?_
    simp
  have r := run_ret (T := tb.tab) (wf := 600) (k := k + 7) (x := "_law_right") (d := d__law_right.df) (vs := [.c 0, .p (.int w), .p (.int h)]) (S := S) (by kernel_rfl) rfl e
  rw [(u1.trans u2).take] at r
  exact r
end Lk34

set_option Elab.async false
set_option linter.all false
set_option maxRecDepth 100000
set_option maxHeartbeats 4000000
namespace Lk34
open PySem DV
variable {k : Nat} {S : Store}
theorem wy_swap : ∀ (bs : List Bool) (x y : Int), (wy x y bs).map (fun d => match d with
    | .tup [.int a, .int b] => M b a
    | _ => .non) = wy y x (bs.map (!·))
  | [], x, y => rfl
  | b :: bs, x, y => by
    have e1 : ox (!b) = oy b := by cases b <;> rfl
    have e2 : oy (!b) = ox b := by cases b <;> rfl
    simp only [wy, List.map_cons, wy_swap bs, e1, e2]
theorem bi_sumFL {f : Int → Int} {m : Nat} : biSum [.lst (FL f m)] = some (.int (T f m)) := by
  show (intsOf (FL f m)).map _ = _
  rw [FL_ints, intsOf_ints]
  rfl
abbrev rt (x1 x2 x3 x4 x5 x6 x7 x8 x9 x10 x11 : Option Sv) : DV.Loc := [some (.c 0), x1, x2, x3, x4, x5, x6, x7, x8, x9, x10, x11, none, none, none]
abbrev t0 : DS := .par [1, 2] [(.bin .Add (.con (.int 1)) (.call "_law_roll" false [(.var 0), (.con (.int 30))])), (.bin .Add (.con (.int 1)) (.call "_law_roll" false [(.var 0), (.con (.int 30))]))]
abbrev t1 : DS := .par [3, 4] [(.call "_law_roll" false [(.var 0), (.bin .Add (.bin .Mult (.var 1) (.var 2)) (.con (.int 1)))]), (.call "_law_random_way" false [(.var 0), (.tup [(.con (.int 0)), (.con (.int 0))]), (.tup [(.var 1), (.var 2)])])]
abbrev t2 : DS := .asg (.name 5) (.call "_law_product" false [(.var 1), (.var 2)])
abbrev t3 : DS := .asg (.name 6) (.lst [(.call "count_area" false [(.var 1), (.var 2), (.var 3)]), (.call "count_area" false [(.var 1), (.var 2), (.bin .Sub (.bin .Mult (.var 1) (.var 2)) (.var 3))]), (.call "count_area" false [(.var 2), (.var 1), (.var 3)]), (.call "count_area" false [(.var 1), (.var 2), (.bin .Mult (.var 1) (.var 2))]), (.call "count_area" false [(.var 1), (.var 2), (.bin .Add (.bin .Mult (.var 1) (.var 2)) (.con (.int 1)))]), (.call "area_of" false [(.var 4)]), (.call "count_turns_of" false [(.var 4)])])
abbrev t4 : DS := .ife (.or (.not (.call "_law_like" false [(.var 6), (.bin .Add (.bin .Mult (.lst [(.ix (.var 5) (.var 3))]) (.con (.int 3))) (.lst [(.con (.int 1)), (.con (.int 0)), (.call "_law_area" false [(.var 4)]), (.call "_law_turns" false [(.var 4)])]))])) (.cmp .NotEq (.bi .sum [(.var 5)]) (.call "_law_chosen" false [(.bin .Add (.var 1) (.var 2)), (.var 2)]))) [.ret (.con (.bl false))] []
abbrev t5 : DS := .asg (.name 7) (.bi .tuple [(.lc (.tup [(.var 14), (.var 13)]) (.tup [(.name 13), (.name 14)]) .seq [(.var 4)] [] [12, 13, 14])])
abbrev t6 : DS := .ife (.not (.call "_law_like" false [(.lst [(.call "area_of" false [(.var 7)]), (.call "count_turns_of" false [(.var 7)])]), (.lst [(.bin .Sub (.bin .Mult (.var 1) (.var 2)) (.call "_law_area" false [(.var 4)])), (.call "_law_turns" false [(.var 4)])])])) [.ret (.con (.bl false))] []
abbrev t7 : DS := .asg (.name 8) (.bin .Add (.con (.int 1)) (.call "_law_roll" false [(.var 0), (.con (.int 59))]))
abbrev t8 : DS := .par [9, 10] [(.bin .FloorDiv (.bi .int [(.bin .Add (.var 8) (.con (.int 1)))]) (.con (.int 2))), (.bin .FloorDiv (.bi .int [(.var 8)]) (.con (.int 2)))]
abbrev t9 : DS := .asg (.name 11) (.bin .Add (.bin .Mult (.call "_law_chosen" false [(.bin .Sub (.var 1) (.con (.int 1))), (.var 10)]) (.call "_law_chosen" false [(.bin .Sub (.var 2) (.con (.int 1))), (.bin .Sub (.var 9) (.con (.int 1)))])) (.bin .Mult (.call "_law_chosen" false [(.bin .Sub (.var 2) (.con (.int 1))), (.var 10)]) (.call "_law_chosen" false [(.bin .Sub (.var 1) (.con (.int 1))), (.bin .Sub (.var 9) (.con (.int 1)))])))
abbrev t10 : DS := .asg (.name 6) (.call "way_of_area" false [(.var 1), (.var 2), (.var 3)])
abbrev t11 : DS := .ife (.not (.call "_law_like" false [(.lst [(.call "count_turns" false [(.var 1), (.var 2), (.var 8)]), (.call "count_turns" false [(.var 1), (.var 2), (.con (.int 0))]), (.call "count_turns" false [(.var 1), (.con (.int 0)), (.con (.int 0))]), (.call "count_turns" false [(.con (.int 0)), (.var 2), (.con (.int 1))])]), (.lst [(.var 11), (.con (.int 0)), (.con (.int 1)), (.con (.int 0))])])) [.ret (.con (.bl false))] []
abbrev t12 : DS := .ret (.and (.call "_law_is_way" false [(.tup [(.var 1), (.var 2), (.tup [])]), (.tup [(.con (.int 0)), (.con (.int 0))]), (.tup [(.var 1), (.var 2)]), (.var 6)]) (.and (.cmp .Eq (.call "_law_area" false [(.var 6)]) (.var 3)) (.cmp .Eq (.call "area_of" false [(.var 6)]) (.var 3))))
theorem t4_ev {w h a : Nat} {bs : List Bool} (hw : w ≤ 30) (hh : h ≤ 30) (ha : a ≤ w * h) (hX : X bs = w) (hY : Y bs = h) {x7 x8 x9 x10 x11 : Option Sv} :
    evS (callF tb.tab 600 (k + 8)) 600 t4 (rt (some (.p (.int w))) (some (.p (.int h))) (some (.p (.int a))) (some (.p (D.tup (wy 0 0 (bs))))) (some (.p (.lst (FL (N w h) (w * h + 1))))) (some (.p (.lst [.int (N w h a), .int (N w h a), .int (N w h a), .int 1, .int 0, .int (ar 0 bs), .int (tr bs)]))) x7 x8 x9 x10 x11) S
    = .nx (rt (some (.p (.int w))) (some (.p (.int h))) (some (.p (.int a))) (some (.p (D.tup (wy 0 0 (bs))))) (some (.p (.lst (FL (N w h) (w * h + 1))))) (some (.p (.lst [.int (N w h a), .int (N w h a), .int (N w h a), .int 1, .int 0, .int (ar 0 bs), .int (tr bs)]))) x7 x8 x9 x10 x11) S := by
  have hxy := XY bs
  have e5 := s_larea (k := k + 7) (S := S) (bs := bs) (by omega)
  have e6 := s_lturns (k := k + 7) (S := S) (bs := bs) (by omega)
  have g := FL_get (f := N w h) (m := w * h + 1) (i := a) (by omega)
  have hs := bi_sumFL (f := N w h) (m := w * h + 1)
  rw [N_sum w h _ (by omega)] at hs
  have ec := s_lchosen (k := k + 7) (S := S) (n := w + h) (s := h) (by omega)
  rw [CI_nat] at ec
  have e7 := like_same (T := tb.tab) (wf := 600) lk_sort lk_like (S := S) (n := 1) (k := k + 8) (by omega) (x := .lst [.int (N w h a), .int (N w h a), .int (N w h a), .int 1, .int 0, .int (ar 0 bs), .int (tr bs)]) rfl
  simp only [run] at e5 e6 ec
  generalize FL (N w h) (w * h + 1) = Z at *
  generalize N w h a = n at *
  generalize ar 0 bs = A at *
  generalize (tr bs : Int) = B at *
  generalize wy 0 0 bs = W at *
  generalize (Cb (w + h) h : Int) = C at *
  have m1 : binD .Mult (.lst [.int n]) (.int 3) = some (.lst [.int n, .int n, .int n]) := by
    simp only [binD]
    rw [if_pos ⟨by decide, by decide, size1000 (by simp)⟩]
    rfl
  have m2 : binD .Add (.lst [.int n, .int n, .int n]) (.lst [.int 1, .int 0, .int A, .int B]) = some (.lst [.int n, .int n, .int n, .int 1, .int 0, .int A, .int B]) := by
    rw [binD_catL (size1000 (by simp))]
    rfl
  have hwh : ((w + h : Nat) : Int) = (w : Int) + h := by omega
  rw [hwh] at ec
  simp [g, m1, m2, e5, e6, e7, ders, biF, hs, ec, eqD_int, pures]
theorem t3_ev {w h a : Nat} {bs : List Bool} (hw : w ≤ 30) (hh : h ≤ 30) (ha : a ≤ w * h) (hX : X bs = w) (hY : Y bs = h) {x5 x6 x7 x8 x9 x10 x11 : Option Sv} :
    evS (callF tb.tab 600 (k + 8)) 600 t3 (rt (some (.p (.int w))) (some (.p (.int h))) (some (.p (.int a))) (some (.p (D.tup (wy 0 0 (bs))))) x5 x6 x7 x8 x9 x10 x11) S
    = .nx (rt (some (.p (.int w))) (some (.p (.int h))) (some (.p (.int a))) (some (.p (D.tup (wy 0 0 (bs))))) x5 (some (.p (.lst [.int (N w h a), .int (N w h a), .int (N w h a), .int 1, .int 0, .int (ar 0 bs), .int (tr bs)]))) x7 x8 x9 x10 x11) S := by
  have hM : w * h ≤ 900 := Nat.mul_le_mul hw hh
  have hm : binD .Mult (.int (w : Int)) (.int (h : Int)) = some (.int ((w * h : Nat) : Int)) := binD_mul (.inl (small_of (by omega) (by omega)))
  have f1 := s_carea (k := k + 4) (S := S) (w := w) (h := h) (a := a) hw hh (by omega)
  have f2 := s_carea (k := k + 4) (S := S) (w := w) (h := h) (a := w * h - a) hw hh (by omega)
  have f3 := s_carea (k := k + 4) (S := S) (w := h) (h := w) (a := a) hh hw (by omega)
  have f4 := s_carea (k := k + 4) (S := S) (w := w) (h := h) (a := w * h) hw hh (by omega)
  have f5 := s_carea (k := k + 4) (S := S) (w := w) (h := h) (a := w * h + 1) hw hh (by omega)
  have e3 := s_area_of (k := k + 3) (S := S) (bs := bs) (by omega) (by omega)
  have e4 := s_turns_of (k := k + 3) (S := S) (bs := bs) (by omega) (by omega)
  rw [N_pal, show ((w * h : Nat) : Int) - ((w * h - a : Nat) : Int) = (a : Int) by omega, show ((w * h - a : Nat) : Int) = ((w * h : Nat) : Int) - a by omega] at f2
  rw [N_sym] at f3
  rw [N_full] at f4
  rw [N_top (by omega), show ((w * h + 1 : Nat) : Int) = ((w * h : Nat) : Int) + 1 by omega] at f5
  simp only [run] at f1 f2 f3 f4 f5 e3 e4
  generalize N w h a = n at *
  generalize w * h = m at *
  generalize ar 0 bs = A at *
  generalize (tr bs : Int) = B at *
  generalize wy 0 0 bs = W at *
  simp [hm, f1, f2, f3, f4, f5, e3, e4, pures]
theorem t56_ev {w h : Nat} {bs : List Bool} {x3 x5 x6 x7 x8 x9 x10 x11 : Option Sv} (hw : w ≤ 30) (hh : h ≤ 30) (hX : X bs = w) (hY : Y bs = h) : ∃ y7, 
    evS (callF tb.tab 600 (k + 8)) 600 t5 (rt (some (.p (.int w))) (some (.p (.int h))) x3 (some (.p (D.tup (wy 0 0 (bs))))) x5 x6 x7 x8 x9 x10 x11) S = .nx (rt (some (.p (.int w))) (some (.p (.int h))) x3 (some (.p (D.tup (wy 0 0 (bs))))) x5 x6 (some y7) x8 x9 x10 x11) S ∧
    evS (callF tb.tab 600 (k + 8)) 600 t6 (rt (some (.p (.int w))) (some (.p (.int h))) x3 (some (.p (D.tup (wy 0 0 (bs))))) x5 x6 (some y7) x8 x9 x10 x11) S = .nx (rt (some (.p (.int w))) (some (.p (.int h))) x3 (some (.p (D.tup (wy 0 0 (bs))))) x5 x6 (some y7) x8 x9 x10 x11) S := by
  have hxy := XY bs
  have hM : w * h ≤ 900 := Nat.mul_le_mul hw hh
  have hm : binD .Mult (.int (w : Int)) (.int (h : Int)) = some (.int ((w * h : Nat) : Int)) := binD_mul (.inl (small_of (by omega) (by omega)))
  refine ⟨.p (D.tup (wy 0 0 (bs.map (!·)))), ?_, ?_⟩
  · have hsw := wy_swap bs 0 0
    have hz : (wy 0 0 bs).length ≤ sizeLine := size1000 (by rw [wy_len]; omega)
    have hmm := fun d => wy_mem (bs := bs) (x := 0) (y := 0) (d := d)
    have lc : evE (callF tb.tab 600 (k + 8)) (.lc (.tup [(.var 14), (.var 13)]) (.tup [(.name 13), (.name 14)]) .seq [(.var 4)] [] [12, 13, 14]) (rt (some (.p (.int w))) (some (.p (.int h))) x3 (some (.p (D.tup (wy 0 0 (bs))))) x5 x6 x7 x8 x9 x10 x11) S = .ok (.p (.lst (wy 0 0 (bs.map (!·))))) S := by
      rw [← hsw]
      generalize wy 0 0 bs = W at *
      refine lc_map (vs := [.p (.tup W)]) (ds := W) (W := []) (by simp) rfl rfl _ (fun d hd => ?_) hz
      obtain ⟨a, b, rfl, _⟩ := hmm d hd
      simp [lcTurn, pures]
    generalize wy 0 0 (bs.map (!·)) = W2 at *
    have et : biF .tuple [.lst W2] = some (.tup W2) := rfl
    simp only [evS_asg, evE_bi, evL_cons, evL_nil, lc, R.bind_ok, ders_p, ders_nil, Option.map_some, et, R.of_some, R.st_ok, bindT_name, SR.of_some]
    rfl
  · have hX2 := X_not bs
    have hY2 := Y_not bs
    have e3 := s_area_of (k := k + 3) (S := S) (bs := bs.map (!·)) (by omega) (by omega)
    have e4 := s_turns_of (k := k + 3) (S := S) (bs := bs.map (!·)) (by omega) (by omega)
    have e5 := s_larea (k := k + 7) (S := S) (bs := bs) (by omega)
    have e6 := s_lturns (k := k + 7) (S := S) (bs := bs) (by omega)
    have ha := ar_not bs 0 0
    rw [tr_not] at e4
    rw [hX, hY] at ha
    have ha2 : ar 0 (bs.map (!·)) = ((w * h : Nat) : Int) - ar 0 bs := by
      have : ((w * h : Nat) : Int) = (0 + (w : Int)) * (0 + (h : Int)) := by simp
      omega
    rw [ha2] at e3
    have e7 := like_same (T := tb.tab) (wf := 600) lk_sort lk_like (S := S) (n := 1) (k := k + 8) (by omega) (x := .lst [.int (((w * h : Nat) : Int) - ar 0 bs), .int (tr bs)]) rfl
    simp only [run] at e3 e4 e5 e6
    clear ha ha2 hX2 hY2
    generalize w * h = m at *
    generalize ar 0 bs = A at *
    generalize (tr bs : Int) = B at *
    generalize wy 0 0 (bs.map (!·)) = W2 at *
    generalize wy 0 0 bs = W at *
    simp [hm, e3, e4, e5, e6, e7, pures]
theorem t9_ev {w h t : Nat} {x3 x4 x5 x6 x7 x8 x11 : Option Sv} (hw1 : 1 ≤ w) (hw : w ≤ 30) (hh1 : 1 ≤ h) (hh : h ≤ 30) (ht : t ≤ 60) :
    evS (callF tb.tab 600 (k + 8)) 600 t9 (rt (some (.p (.int w))) (some (.p (.int h))) x3 x4 x5 x6 x7 x8 (some (.p (.int (((t + 1) / 2 : Nat) : Int)))) (some (.p (.int ((t / 2 : Nat) : Int)))) x11) S
    = .nx (rt (some (.p (.int w))) (some (.p (.int h))) x3 x4 x5 x6 x7 x8 (some (.p (.int (((t + 1) / 2 : Nat) : Int)))) (some (.p (.int ((t / 2 : Nat) : Int)))) (some (.p (.int (CT w h t))))) S := by
  have ew : (w : Int) - 1 = ((w - 1 : Nat) : Int) := by omega
  have eh : (h : Int) - 1 = ((h - 1 : Nat) : Int) := by omega
  have g1 := s_lchosen (k := k + 7) (S := S) (n := w - 1) (s := ((t / 2 : Nat) : Int)) (by omega)
  have g2 := s_lchosen (k := k + 7) (S := S) (n := h - 1) (s := (((t + 1) / 2 : Nat) : Int) - 1) (by omega)
  have g3 := s_lchosen (k := k + 7) (S := S) (n := h - 1) (s := ((t / 2 : Nat) : Int)) (by omega)
  have g4 := s_lchosen (k := k + 7) (S := S) (n := w - 1) (s := (((t + 1) / 2 : Nat) : Int) - 1) (by omega)
  have b1 := CI_bd (n := w - 1) (by omega) ((t / 2 : Nat) : Int)
  have b3 := CI_bd (n := h - 1) (by omega) ((t / 2 : Nat) : Int)
  have hc : CT w h t = CI (w - 1) ((t / 2 : Nat) : Int) * CI (h - 1) (((t + 1) / 2 : Nat) - 1 : Int) + CI (h - 1) ((t / 2 : Nat) : Int) * CI (w - 1) (((t + 1) / 2 : Nat) - 1 : Int) := by
    unfold CT; rw [if_neg (by omega)]
  rw [hc]
  simp only [run] at g1 g2 g3 g4
  generalize CI (w - 1) ((t / 2 : Nat) : Int) = A at *
  generalize CI (h - 1) ((((t + 1) / 2 : Nat) : Int) - 1) = B at *
  generalize CI (h - 1) ((t / 2 : Nat) : Int) = C at *
  generalize CI (w - 1) ((((t + 1) / 2 : Nat) : Int) - 1) = E at *
  have m1 : binD .Mult (.int A) (.int B) = some (.int (A * B)) := binD_mul (.inl (small_of (by omega) (by omega)))
  have m2 : binD .Mult (.int C) (.int E) = some (.int (C * E)) := binD_mul (.inl (small_of (by omega) (by omega)))
  rw [← ew, ← eh] at *
  generalize ((t / 2 : Nat) : Int) = less at *
  generalize (((t + 1) / 2 : Nat) : Int) = more at *
  simp [g1, g2, g3, g4, m1, m2]
theorem t11_ev {w h t : Nat} {x3 x4 x5 x6 x7 x9 x10 : Option Sv} (hw1 : 1 ≤ w) (hw : w ≤ 30) (hh1 : 1 ≤ h) (hh : h ≤ 30) (ht : t ≤ 60) :
    evS (callF tb.tab 600 (k + 8)) 600 t11 (rt (some (.p (.int w))) (some (.p (.int h))) x3 x4 x5 x6 x7 (some (.p (.int t))) x9 x10 (some (.p (.int (CT w h t))))) S
    = .nx (rt (some (.p (.int w))) (some (.p (.int h))) x3 x4 x5 x6 x7 (some (.p (.int t))) x9 x10 (some (.p (.int (CT w h t))))) S := by
  have g1 := s_cturns (k := k + 4) (S := S) hw hh ht
  have g2 := s_cturns (k := k + 4) (S := S) (w := w) (h := h) (t := 0) hw hh (by omega)
  have g3 := s_cturns (k := k + 4) (S := S) (w := w) (h := 0) (t := 0) hw (by omega) (by omega)
  have g4 := s_cturns (k := k + 4) (S := S) (w := 0) (h := h) (t := 1) (by omega) hh (by omega)
  have c2 : CT w h 0 = 0 := by
    unfold CT
    rw [if_neg (by omega), CI_out (n := h - 1) (s := (((0 + 1) / 2 : Nat) - 1 : Int)) (by omega), CI_out (n := w - 1) (s := (((0 + 1) / 2 : Nat) - 1 : Int)) (by omega)]
    simp
  have c3 : CT w 0 0 = 1 := by unfold CT; simp
  have c4 : CT 0 h 1 = 0 := by unfold CT; simp
  rw [c2] at g2
  rw [c3] at g3
  rw [c4] at g4
  have z0 : ((0 : Nat) : Int) = 0 := rfl
  have z1 : ((1 : Nat) : Int) = 1 := rfl
  simp only [run, z0, z1] at g1 g2 g3 g4
  have e7 := like_same (T := tb.tab) (wf := 600) lk_sort lk_like (S := S) (n := 1) (k := k + 8) (by omega) (x := .lst [.int (CT w h t), .int 0, .int 1, .int 0]) rfl
  generalize CT w h t = C at *
  simp [g1, g2, g3, g4, e7, pures]
theorem s_great (hS : Has S) : ∃ S', Up S S' ∧ run (k + 9) "_law_great_right" [.c 0] S = .ok (.p (.bl true)) S' := by
  obtain ⟨v1, S1, v1a, v1b, u1, e1⟩ := s_roll (wf := 600) (k := k + 7) lk_roll (m := 30) (by omega) (by omega) hS
  have h1 := u1.has hS
  obtain ⟨v2, S2, v2a, v2b, u2, e2⟩ := s_roll (wf := 600) (k := k + 7) lk_roll (m := 30) (by omega) (by omega) h1
  have h2 := u2.has h1
  obtain ⟨w, hw0⟩ : ∃ w : Nat, 1 + v1 = (w : Int) := ⟨(1 + v1).toNat, by omega⟩
  obtain ⟨h, hh0⟩ : ∃ w : Nat, 1 + v2 = (w : Int) := ⟨(1 + v2).toNat, by omega⟩
  have hw1 : 1 ≤ w := by omega
  have hw : w ≤ 30 := by omega
  have hh1 : 1 ≤ h := by omega
  have hh : h ≤ 30 := by omega
  have hM : w * h ≤ 900 := Nat.mul_le_mul hw hh
  have hm : binD .Mult (.int (w : Int)) (.int (h : Int)) = some (.int ((w * h : Nat) : Int)) := binD_mul (.inl (small_of (by omega) (by omega)))
  obtain ⟨v3, S3, v3a, v3b, u3, e3⟩ := s_roll (wf := 600) (k := k + 7) lk_roll (m := ((w * h : Nat) : Int) + 1) (by omega) (by omega) h2
  obtain ⟨a, rfl⟩ := Int.eq_ofNat_of_zero_le v3a
  have ha : a ≤ w * h := by omega
  have h3 := u3.has h2
  obtain ⟨bs, S4, hX, hY, u4, e4⟩ := s_random (k := k + 6) (w := w) (h := h) (by omega) h3
  have h4 := u4.has h3
  have e5 := s_product (k := k + 7) (S := S4) hw hh
  have e6 := t3_ev (k := k) (S := S4) (bs := bs) hw hh ha hX hY (x5 := some (.p (.lst (FL (N w h) (w * h + 1))))) (x6 := none) (x7 := none) (x8 := none) (x9 := none) (x10 := none) (x11 := none)
  have e7 := t4_ev (k := k) (S := S4) (bs := bs) hw hh ha hX hY (x7 := none) (x8 := none) (x9 := none) (x10 := none) (x11 := none)
  obtain ⟨y7, e8, e9⟩ := t56_ev (k := k) (S := S4) (bs := bs) (x3 := some (.p (.int a))) (x5 := some (.p (.lst (FL (N w h) (w * h + 1))))) (x6 := some (.p (.lst [.int (N w h a), .int (N w h a), .int (N w h a), .int 1, .int 0, .int (ar 0 bs), .int (tr bs)]))) (x7 := none) (x8 := none) (x9 := none) (x10 := none) (x11 := none) hw hh hX hY
  obtain ⟨v5, S5, v5a, v5b, u5, e10⟩ := s_roll (wf := 600) (k := k + 7) lk_roll (m := 59) (by omega) (by omega) h4
  obtain ⟨t, ht0⟩ : ∃ w : Nat, 1 + v5 = (w : Int) := ⟨(1 + v5).toNat, by omega⟩
  have ht : t ≤ 60 := by omega
  obtain ⟨cs, cX, cY, cA, e13⟩ := (s_wayof (k := k + 4) (S := S5) (w := w) (h := h) (a := a) hw hh (by omega)).2 ha
  have e12 := fun x6 => t9_ev (k := k) (S := S5) (w := w) (h := h) (t := t) (x3 := some (.p (.int a))) (x4 := some (.p (D.tup (wy 0 0 (bs))))) (x5 := some (.p (.lst (FL (N w h) (w * h + 1))))) (x6 := x6) (x7 := some y7) (x8 := some (.p (.int t))) (x11 := none) hw1 hw hh1 hh ht
  have e14 := t11_ev (k := k) (S := S5) (w := w) (h := h) (t := t) (x3 := some (.p (.int a))) (x4 := some (.p (D.tup (wy 0 0 (bs))))) (x5 := some (.p (.lst (FL (N w h) (w * h + 1))))) (x6 := some (.p (D.tup (wy 0 0 (cs))))) (x7 := some y7) (x9 := some (.p (.int (((t + 1) / 2 : Nat) : Int)))) (x10 := some (.p (.int ((t / 2 : Nat) : Int)))) hw1 hw hh1 hh ht
  have hcxy := XY cs
  have e15 := s_isway (k := k + 4) (S := S5) cX cY (by omega)
  have e16 := s_larea (k := k + 7) (S := S5) (bs := cs) (by omega)
  have e17 := s_area_of (k := k + 3) (S := S5) (bs := cs) (by omega) (by omega)
  rw [cA] at e16 e17
  refine ⟨S5, (((u1.trans u2).trans u3).trans u4).trans u5, ?_⟩
  simp only [run] at e4 e5 e13 e15 e16 e17
  generalize hN : (D.lst [.int (N w h a), .int (N w h a), .int (N w h a), .int 1, .int 0, .int (ar 0 bs), .int (tr bs)]) = told at *
  generalize CT w h t = due at *
  generalize FL (N w h) (w * h + 1) = Z at *
  have e : evB (callF tb.tab 600 (k + 8)) 600 d__law_great_right.df.body (rt none none none none none none none none none none none) S = .ret (.p (.bl true)) S5 := by
    refine (seqE (ρ' := rt (some (.p (.int w))) (some (.p (.int h))) none none none none none none none none none) (S' := S2) ?_).trans ?_
    · simp [e1, e2, hw0, hh0]
    refine (seqE (ρ' := rt (some (.p (.int w))) (some (.p (.int h))) (some (.p (.int a))) (some (.p (D.tup (wy 0 0 (bs))))) none none none none none none none) (S' := S4) ?_).trans ?_
    · clear e6 e7 e8 e9 e12 e14 e15
      generalize wy 0 0 bs = W at *
      generalize w * h = m at *
      simp [hm, e3, e4, pures]
    refine (seqE (ρ' := rt (some (.p (.int w))) (some (.p (.int h))) (some (.p (.int a))) (some (.p (D.tup (wy 0 0 (bs))))) (some (.p (.lst Z))) none none none none none none) (S' := S4) (by simp [e5])).trans ?_
    refine (seqE e6).trans ?_
    refine (seqE e7).trans ?_
    refine (seqE e8).trans ?_
    refine (seqE e9).trans ?_
    refine (seqE (ρ' := rt (some (.p (.int w))) (some (.p (.int h))) (some (.p (.int a))) (some (.p (D.tup (wy 0 0 (bs))))) (some (.p (.lst Z))) (some (.p told)) (some y7) (some (.p (.int t))) none none none) (S' := S5) ?_).trans ?_
    · simp [e10, ht0]
    refine (seqE (ρ' := rt (some (.p (.int w))) (some (.p (.int h))) (some (.p (.int a))) (some (.p (D.tup (wy 0 0 (bs))))) (some (.p (.lst Z))) (some (.p told)) (some y7) (some (.p (.int t))) (some (.p (.int (((t + 1) / 2 : Nat) : Int)))) (some (.p (.int ((t / 2 : Nat) : Int)))) none) (S' := S5) ?_).trans ?_
    · have f1 : ((t : Int) + 1).fdiv 2 = (((t + 1) / 2 : Nat) : Int) := fdiv2n (t + 1)
      have f2 := fdiv2n t
      generalize ((t / 2 : Nat) : Int) = less at *
      generalize (((t + 1) / 2 : Nat) : Int) = more at *
      simp [ders, biF, biInt, binD_div (show divOK 2 by decide), f1, f2]
    refine (seqE (e12 _)).trans ?_
    refine (seqE (ρ' := rt (some (.p (.int w))) (some (.p (.int h))) (some (.p (.int a))) (some (.p (D.tup (wy 0 0 (bs))))) (some (.p (.lst Z))) (some (.p (D.tup (wy 0 0 (cs))))) (some y7) (some (.p (.int t))) (some (.p (.int (((t + 1) / 2 : Nat) : Int)))) (some (.p (.int ((t / 2 : Nat) : Int)))) (some (.p (.int due)))) (S' := S5) (by simp [e13])).trans ?_
    refine (seqE e14).trans ?_
    refine seqR ?_
    generalize wy 0 0 cs = V at *
    simp [e15, e16, e17, pures, eqD_int]
  have r := run_ret (T := tb.tab) (wf := 600) (k := k + 8) (x := "_law_great_right") (d := d__law_great_right.df) (vs := [.c 0]) (S := S) (by kernel_rfl) rfl e
  rw [((((u1.trans u2).trans u3).trans u4).trans u5).take] at r
  exact r
theorem s_written (c : Cell) : callF tb.tab 600 39 "_law_written_right" [] [c] = .ok (.p (.bl true)) [c] := by kernel_rfl
abbrev v0 : DS := .ife (.not (.call "_law_right" false [(.var 1), (.call "_law_roll" false [(.var 1), (.con (.int 6))]), (.call "_law_roll" false [(.var 1), (.con (.int 5))])])) [.ret (.con (.bl false))] []
theorem law_val : ∀ ns : List Int, ns.length ≤ 63 → ∃ S, run 40 "law" [.p (.scr ns)] [] = .ok (.p (.bl true)) S := fun ns hn => by
  obtain ⟨a, b, ok, e0⟩ := s_cup (wf := 600) (k := 38) lk_cup ns (by omega)
  have h0 : Has [Cup a b] := ⟨a, b, ok, rfl⟩
  have hl : ∃ S1 y, Up [Cup a b] S1 ∧ evS (callF tb.tab 600 39) 600 (.for (.name 2) .rng [(.con (.int 4))] [v0]) [some (.p (.scr ns)), some (.c 0), none] [Cup a b] = .nx [some (.p (.scr ns)), some (.c 0), y] S1 := by
    rw [evS_for (vs := [.p (.int 4)]) (S1 := [Cup a b]) (ds := (List.range 4).map fun m => D.int (m : Nat)) (W := []) (by simp) (items_rng (n := 4) (by decide))]
    generalize hr : forL _ _ _ _ _ _ = res
    obtain ⟨ρ', S', rfl, hS, y, rfl⟩ := all_of hr (fun _ ρ S => Up [Cup a b] S ∧ ∃ y, ρ = [some (.p (.scr ns)), some (.c 0), y]) ⟨Up.refl h0, _, rfl⟩ (fun _ _ _ _ => rfl) (fun j hj ρ S hI => by
      obtain ⟨hS, y, rfl⟩ := hI
      have hHas := hS.has h0
      obtain ⟨v1, S1, v1a, v1b, u1, e1⟩ := s_roll (wf := 600) (k := 38) lk_roll (m := 6) (by omega) (by omega) hHas
      obtain ⟨v2, S2, v2a, v2b, u2, e2⟩ := s_roll (wf := 600) (k := 38) lk_roll (m := 5) (by omega) (by omega) (u1.has hHas)
      obtain ⟨w, rfl⟩ := Int.eq_ofNat_of_zero_le v1a
      obtain ⟨h, rfl⟩ := Int.eq_ofNat_of_zero_le v2a
      obtain ⟨S3, u3, e3⟩ := s_right (k := 31) (w := w) (h := h) (by omega) (by omega) (u2.has (u1.has hHas))
      simp only [run] at e3
      refine ⟨_, _, S3, rfl, .inl (?_ : _ = SR.nx [some (.p (.scr ns)), some (.c 0), some (.p (((List.range 4).map fun m => D.int (m : Nat))[j]))] S3), hS.trans ((u1.trans u2).trans u3), _, rfl⟩
      simp [e1, e2, e3])
    exact ⟨S', y, hS, rfl⟩
  obtain ⟨S1, y, h1, e1⟩ := hl
  obtain ⟨S2, u2, e2⟩ := s_great (k := 30) (h1.has h0)
  have e3 : callF tb.tab 600 39 "_law_written_right" [] S2 = .ok (.p (.bl true)) S2 := by
    obtain ⟨p, q, _, rfl⟩ := h1.trans u2
    exact s_written _
  simp only [run] at e2
  have e : evB (callF tb.tab 600 39) 600 d_law.df.body [some (.p (.scr ns)), none, none] [] = .ret (.p (.bl true)) S2 := by
    refine (seqE (ρ' := [some (.p (.scr ns)), some (.c 0), none]) (S' := [Cup a b]) ?_).trans ?_
    · simp [e0, frsh, Cup]
    refine (seqE e1).trans ?_
    refine seqR ?_
    simp [e2, e3]
  exact ⟨_, run_ret (T := tb.tab) (wf := 600) (k := 39) (x := "law") (d := d_law.df) (vs := [.p (.scr ns)]) (by kernel_rfl) rfl e⟩
end Lk34

set_option Elab.async false
set_option linter.all false
set_option maxRecDepth 100000
open PySem PySem.W PyProof.Rows
set_option maxHeartbeats 0 in
theorem PySem.Challenge.cw_plotsagreed_k34_whole_areas_holds : PySem.Challenge.rw_plotsagreed_k34_whole_areas.Holds := by
  w_on; o_law; k_head; (case hw => w_witness2)
  k_fill
  refine L2.walk_of (l := PySem.Challenge.rw_plotsagreed_k34_whole_areas) (n := 63) (k := 40) (x := "script") (CX := fun w => L2.CX PySem.Challenge.rw_plotsagreed_k34_whole_areas.prog w) (sp := fun w => DV.spLaw _ 63) rfl (by decide) rfl ⟨rfl, by decide, by decide⟩ (fun w h Y => PySem.W.kIn_of Y) ?F (fun _ _ a ns hl _ hS => ⟨a, ns, rfl, hS, hl, fun _ => rfl⟩) DV.noCX
  case F =>
    intro w mg fa h KX G hmg
    refine' DV.law_end (t := Lk34.tb) (bis := Lk34.bis) (gc := Lk34.gcs) (cs := Lk34.cs) (wf := 600) (d := Lk34.d_law) Lk34.ok_all rfl rfl rfl Lk34.law_val KX G hmg ?fn ?fb ?fg ?fc
    case fn =>
      refine' ⟨DV.FnFact.of ?a0 ?b0 ?c0 ?d0, DV.FnFact.of ?a1 ?b1 ?c1 ?d1, DV.FnFact.of ?a2 ?b2 ?c2 ?d2, DV.FnFact.of ?a3 ?b3 ?c3 ?d3, DV.FnFact.of ?a4 ?b4 ?c4 ?d4, DV.FnFact.of ?a5 ?b5 ?c5 ?d5, DV.FnFact.of ?a6 ?b6 ?c6 ?d6, DV.FnFact.of ?a7 ?b7 ?c7 ?d7, DV.FnFact.of ?a8 ?b8 ?c8 ?d8, DV.FnFact.of ?a9 ?b9 ?c9 ?d9, DV.FnFact.of ?a10 ?b10 ?c10 ?d10, DV.FnFact.of ?a11 ?b11 ?c11 ?d11, DV.FnFact.of ?a12 ?b12 ?c12 ?d12, DV.FnFact.of ?a13 ?b13 ?c13 ?d13, DV.FnFact.of ?a14 ?b14 ?c14 ?d14, DV.FnFact.of ?a15 ?b15 ?c15 ?d15, DV.FnFact.of ?a16 ?b16 ?c16 ?d16, DV.FnFact.of ?a17 ?b17 ?c17 ?d17, DV.FnFact.of ?a18 ?b18 ?c18 ?d18, DV.FnFact.of ?a19 ?b19 ?c19 ?d19, DV.FnFact.of ?a20 ?b20 ?c20 ?d20, DV.FnFact.of ?a21 ?b21 ?c21 ?d21, DV.FnFact.of ?a22 ?b22 ?c22 ?d22, DV.FnFact.of ?a23 ?b23 ?c23 ?d23, DV.FnFact.of ?a24 ?b24 ?c24 ?d24, DV.FnFact.of ?a25 ?b25 ?c25 ?d25, DV.FnFact.of ?a26 ?b26 ?c26 ?d26, DV.FnFact.of ?a27 ?b27 ?c27 ?d27, DV.FnFact.of ?a28 ?b28 ?c28 ?d28, DV.FnFact.of ?a29 ?b29 ?c29 ?d29, DV.FnFact.of ?a30 ?b30 ?c30 ?d30, DV.FnFact.of ?a31 ?b31 ?c31 ?d31, DV.FnFact.of ?a32 ?b32 ?c32 ?d32, DV.FnFact.of ?a33 ?b33 ?c33 ?d33, trivial⟩
      (case a0 => k_is); (case b0 => k_is); (case c0 => k_is); (case d0 => k_is)
      (case a1 => k_is); (case b1 => k_is); (case c1 => k_is); (case d1 => k_is)
      (case a2 => k_is); (case b2 => k_is); (case c2 => k_is); (case d2 => k_is)
      (case a3 => k_is); (case b3 => k_is); (case c3 => k_is); (case d3 => k_is)
      (case a4 => k_is); (case b4 => k_is); (case c4 => k_is); (case d4 => k_is)
      (case a5 => k_is); (case b5 => k_is); (case c5 => k_is); (case d5 => k_is)
      (case a6 => k_is); (case b6 => k_is); (case c6 => k_is); (case d6 => k_is)
      (case a7 => k_is); (case b7 => k_is); (case c7 => k_is); (case d7 => k_is)
      (case a8 => k_is); (case b8 => k_is); (case c8 => k_is); (case d8 => k_is)
      (case a9 => k_is); (case b9 => k_is); (case c9 => k_is); (case d9 => k_is)
      (case a10 => k_is); (case b10 => k_is); (case c10 => k_is); (case d10 => k_is)
      (case a11 => k_is); (case b11 => k_is); (case c11 => k_is); (case d11 => k_is)
      (case a12 => k_is); (case b12 => k_is); (case c12 => k_is); (case d12 => k_is)
      (case a13 => k_is); (case b13 => k_is); (case c13 => k_is); (case d13 => k_is)
      (case a14 => k_is); (case b14 => k_is); (case c14 => k_is); (case d14 => k_is)
      (case a15 => k_is); (case b15 => k_is); (case c15 => k_is); (case d15 => k_is)
      (case a16 => k_is); (case b16 => k_is); (case c16 => k_is); (case d16 => k_is)
      (case a17 => k_is); (case b17 => k_is); (case c17 => k_is); (case d17 => k_is)
      (case a18 => k_is); (case b18 => k_is); (case c18 => k_is); (case d18 => k_is)
      (case a19 => k_is); (case b19 => k_is); (case c19 => k_is); (case d19 => k_is)
      (case a20 => k_is); (case b20 => k_is); (case c20 => k_is); (case d20 => k_is)
      (case a21 => k_is); (case b21 => k_is); (case c21 => k_is); (case d21 => k_is)
      (case a22 => k_is); (case b22 => k_is); (case c22 => k_is); (case d22 => k_is)
      (case a23 => k_is); (case b23 => k_is); (case c23 => k_is); (case d23 => k_is)
      (case a24 => k_is); (case b24 => k_is); (case c24 => k_is); (case d24 => k_is)
      (case a25 => k_is); (case b25 => k_is); (case c25 => k_is); (case d25 => k_is)
      (case a26 => k_is); (case b26 => k_is); (case c26 => k_is); (case d26 => k_is)
      (case a27 => k_is); (case b27 => k_is); (case c27 => k_is); (case d27 => k_is)
      (case a28 => k_is); (case b28 => k_is); (case c28 => k_is); (case d28 => k_is)
      (case a29 => k_is); (case b29 => k_is); (case c29 => k_is); (case d29 => k_is)
      (case a30 => k_is); (case b30 => k_is); (case c30 => k_is); (case d30 => k_is)
      (case a31 => k_is); (case b31 => k_is); (case c31 => k_is); (case d31 => k_is)
      (case a32 => k_is); (case b32 => k_is); (case c32 => k_is); (case d32 => k_is)
      (case a33 => k_is); (case b33 => k_is); (case c33 => k_is); (case d33 => k_is)
    case fb =>
      refine' ⟨?b0, ?b1, ?b2, ?b3, ?b4, ?b5, ?b6, ?b7, ?b8, ?b9, ?b10, ?b11, ?b12, ?b13, ?b14, ?b15, trivial⟩
      (case b0 => show PySem.W.nsIn _ _ _ = _; k_is); (case b1 => show PySem.W.nsIn _ _ _ = _; k_is); (case b2 => show PySem.W.nsIn _ _ _ = _; k_is); (case b3 => show PySem.W.nsIn _ _ _ = _; k_is); (case b4 => show PySem.W.nsIn _ _ _ = _; k_is); (case b5 => show PySem.W.nsIn _ _ _ = _; k_is); (case b6 => show PySem.W.nsIn _ _ _ = _; k_is); (case b7 => show PySem.W.nsIn _ _ _ = _; k_is); (case b8 => show PySem.W.nsIn _ _ _ = _; k_is); (case b9 => show PySem.W.nsIn _ _ _ = _; k_is); (case b10 => show PySem.W.nsIn _ _ _ = _; k_is); (case b11 => show PySem.W.nsIn _ _ _ = _; k_is); (case b12 => show PySem.W.nsIn _ _ _ = _; k_is); (case b13 => show PySem.W.nsIn _ _ _ = _; k_is); (case b14 => show PySem.W.nsIn _ _ _ = _; k_is); (case b15 => show PySem.W.nsIn _ _ _ = _; k_is)
    case fg => exact trivial
    case fc =>
      refine' ⟨DV.CsFact.int ?b0, DV.CsFact.int ?b1, DV.CsFact.int ?b2, trivial⟩
      (case b0 => k_is); (case b1 => k_is); (case b2 => k_is)

