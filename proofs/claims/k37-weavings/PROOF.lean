import PyProof.Rows.All
import Wide.All
import OpenK.AllK
import Wide.FinOn
import HandS.ForMost
import HandS.IsInst
import HandS.Wide
import HandS.TupAny
import HandS.Conv
import HandS.Small
import HandS.Style
import HandS.Deep
import HandS.Codes
import PyProof.TwoTypesSub
import HandS.Strs
import PyProof.Rows.SortShellAny
import HandS.SetBool
import HandS.EndBits
import PySem.Challenge.RW_cellpacts_k37_weavings
set_option Elab.async false
set_option linter.all false
set_option maxRecDepth 100000
set_option maxHeartbeats 4000000
/-! Values, memory, a compact syntax and its run. -/
namespace Cp
open PySem

/-- a value: tuples are pure (frl: a list that nobody may change), what may change is told by its number -/
inductive D where
  | non | bl (b : Bool) | int (i : Int) | str (x : Str) | tup (xs : List D) | frl (xs : List D) | ref (n : Nat)
  deriving Inhabited
/-- what may change: a list, a dict -/
inductive MO where
  | lst (xs : List D) | dct (kvs : List (L2.Key × D))
  deriving Inhabited
abbrev Mem := List MO
abbrev Ev := List (Option D)
structure Exn where
  cls : Str
  fs : List (Str × D)
inductive R (α : Type) where
  | ok (a : α) | exn (x : Exn) (M : Mem) | bad
def R.bind {α β : Type} : R α → (α → R β) → R β
  | .ok a, f => f a
  | .exn x M, _ => .exn x M
  | .bad, _ => .bad
@[simp] theorem R.bind_ok {α β : Type} (a : α) (f : α → R β) : (R.ok a).bind f = f a := rfl
@[simp] theorem R.bind_bad {α β : Type} (f : α → R β) : (R.bad : R α).bind f = .bad := rfl
@[simp] theorem R.bind_exn {α β : Type} (x : Exn) (M : Mem) (f : α → R β) : (R.exn x M : R α).bind f = .exn x M := rfl
abbrev RD := R (D × Mem)
/-- an option's value, else nothing is told -/
def R.of {α β : Type} : Option α → (α → R β) → R β
  | some a, f => f a
  | none, _ => .bad
@[simp] theorem R.of_some {α β : Type} (a : α) (f : α → R β) : R.of (some a) f = f a := rfl
@[simp] theorem R.of_none {α β : Type} (f : α → R β) : (R.of none f : R β) = .bad := rfl
/-- where a condition holds -/
def R.when {β : Type} (c : Prop) [Decidable c] (r : R β) : R β := if c then r else .bad
theorem R.when_pos {β : Type} {c : Prop} [Decidable c] {r : R β} (h : c) : R.when c r = r := if_pos h

/-! ### dicts -/
section
variable {κ : Type} [DecidableEq κ]
def lookD (kvs : List (κ × D)) (k : κ) : Option D := (kvs.find? fun kv => decide (kv.1 = k)).map (·.2)
def putD (kvs : List (κ × D)) (k : κ) (v : D) : List (κ × D) :=
  if (kvs.any fun kv => decide (kv.1 = k)) = true then kvs.map (fun kv => if kv.1 = k then (kv.1, v) else kv) else kvs ++ [(k, v)]
end
def keyD : D → Option L2.Key
  | .int i => some (.inl i)
  | .str x => some (.inr x)
  | _ => none
def dKey : L2.Key → D
  | .inl i => .int i
  | .inr x => .str x

/-! ### data as trees -/
mutual
inductive Py (M : Mem) : D → PyData → Prop
  | non : Py M .non .none
  | bl (b : Bool) : Py M (.bl b) (.bool b)
  | int (i : Int) : Py M (.int i) (.int i)
  | str (x : Str) : Py M (.str x) (.str x)
  | tup {xs : List D} {ps : List PyData} : PyAll M xs ps → Py M (.tup xs) (.tuple ps)
  | lst {a : Nat} {xs : List D} {ps : List PyData} : M[a]? = some (.lst xs) → PyAll M xs ps → Py M (.ref a) (.list ps)
  | frl {xs : List D} {ps : List PyData} : PyAll M xs ps → Py M (.frl xs) (.list ps)
inductive PyAll (M : Mem) : List D → List PyData → Prop
  | nil : PyAll M [] []
  | cons {x : D} {p : PyData} {xs : List D} {ps : List PyData} : Py M x p → PyAll M xs ps → PyAll M (x :: xs) (p :: ps)
end
mutual
theorem Py.det {M : Mem} : ∀ {q : PyData} {d : D} {p : PyData}, Py M d p → Py M d q → p = q
  | .none, _, _, h, .non => by cases h; rfl
  | .bool b, _, _, h, .bl _ => by cases h; rfl
  | .int i, _, _, h, .int _ => by cases h; rfl
  | .str x, _, _, h, .str _ => by cases h; rfl
  | .tuple ps, _, _, h, .tup k => by cases h with | tup k' => rw [PyAll.det k' k]
  | .list ps, _, _, h, .lst e k => by
    cases h with
    | lst e' k' => rw [e] at e'; cases e'; rw [PyAll.det k' k]
  | .list ps, _, _, h, .frl k => by cases h with | frl k' => rw [PyAll.det k' k]
theorem PyAll.det {M : Mem} : ∀ {qs : List PyData} {xs : List D} {ps : List PyData}, PyAll M xs ps → PyAll M xs qs → ps = qs
  | [], _, _, h, .nil => by cases h; rfl
  | q :: qs, _, _, h, .cons k ks => by
    cases h with
    | cons k' ks' => rw [Py.det k' k, PyAll.det ks' ks]
end
theorem PyAll.mem {M : Mem} : ∀ {xs : List D} {ps : List PyData}, PyAll M xs ps → ∀ x ∈ xs, ∃ p ∈ ps, Py M x p
  | _, _, .nil, x, h => absurd h (by simp)
  | _, _, .cons k ks, x, h => by
    rcases List.mem_cons.mp h with e | h
    · subst e; exact ⟨_, List.mem_cons_self, k⟩
    · obtain ⟨p, hp, q⟩ := PyAll.mem ks x h; exact ⟨p, List.mem_cons_of_mem _ hp, q⟩
theorem PyAll.append {M : Mem} : ∀ {xs ys : List D} {ps qs : List PyData}, PyAll M xs ps → PyAll M ys qs → PyAll M (xs ++ ys) (ps ++ qs)
  | _, _, _, _, .nil, h => h
  | _, _, _, _, .cons k ks, h => .cons k (PyAll.append ks h)
theorem PyAll.length {M : Mem} : ∀ {xs : List D} {ps : List PyData}, PyAll M xs ps → xs.length = ps.length
  | _, _, .nil => rfl
  | _, _, .cons _ ks => by rw [List.length_cons, List.length_cons, PyAll.length ks]

open Classical in
/-- the tree that a value reads -/
noncomputable def tree (M : Mem) (d : D) : Option PyData := if h : ∃ p, Py M d p then some h.choose else none
theorem tree_of {M : Mem} {d : D} {p : PyData} (h : Py M d p) : tree M d = some p := by
  have h' : ∃ p, Py M d p := ⟨p, h⟩
  unfold tree
  rw [dif_pos h', Py.det h'.choose_spec h]
theorem of_tree {M : Mem} {d : D} {p : PyData} (h : tree M d = some p) : Py M d p := by
  unfold tree at h
  split at h
  · rename_i h'; cases h; exact h'.choose_spec
  · cases h

/-- == of data -/
noncomputable def eqD (M : Mem) (d e : D) : Option Bool :=
  (tree M d).bind fun p => (tree M e).bind fun q => if (SeqAt.shaped p && SeqAt.shaped q) = true then some (PyData.eqv p q) else none
theorem eqD_of {M : Mem} {d e : D} {p q : PyData} (h : Py M d p) (k : Py M e q) (sp : SeqAt.shaped p = true) (sq : SeqAt.shaped q = true) : eqD M d e = some (PyData.eqv p q) := by
  unfold eqD
  rw [tree_of h, tree_of k]
  show (if (SeqAt.shaped p && SeqAt.shaped q) = true then some (PyData.eqv p q) else none) = _
  rw [sp, sq]
  rfl
theorem of_eqD {M : Mem} {d e : D} {b : Bool} (h : eqD M d e = some b) : ∃ p q, Py M d p ∧ Py M e q ∧ SeqAt.shaped p = true ∧ SeqAt.shaped q = true ∧ b = PyData.eqv p q := by
  unfold eqD at h
  cases e1 : tree M d with
  | none => rw [e1] at h; cases h
  | some p =>
    cases e2 : tree M e with
    | none => rw [e1, e2] at h; cases h
    | some q =>
      rw [e1, e2] at h
      have h' : (if (SeqAt.shaped p && SeqAt.shaped q) = true then some (PyData.eqv p q) else none) = some b := h
      split at h'
      · rename_i c
        rw [Bool.and_eq_true] at c
        cases h'
        exact ⟨p, q, of_tree e1, of_tree e2, c.1, c.2, rfl⟩
      · cases h'

/-! ### what is asked of values -/
def truth (M : Mem) : D → Option Bool
  | .non => some false
  | .bl b => some b
  | .int i => some (i != 0)
  | .str x => if x.length ≤ sizeLine then some ((x.length : Int) != 0) else none
  | .tup xs => some (!xs.isEmpty)
  | .frl xs => some (!xs.isEmpty)
  | .ref a => match M[a]? with
    | some (.lst xs) => some (!xs.isEmpty)
    | some (.dct kvs) => some (!kvs.isEmpty)
    | none => none
def lenD (M : Mem) : D → Option Nat
  | .str x => if x.length ≤ sizeLine then some x.length else none
  | .tup xs => some xs.length
  | .frl xs => some xs.length
  | .ref a => match M[a]? with
    | some (.lst xs) => some xs.length
    | some (.dct kvs) => some kvs.length
    | none => none
  | _ => none
/-- the items of a tuple, of a list -/
def itemsD (M : Mem) : D → Option (List D)
  | .tup xs => some xs
  | .frl xs => some xs
  | .ref a => match M[a]? with
    | some (.lst xs) => some xs
    | _ => none
  | _ => none
def tyD (M : Mem) : D → Option String
  | .non => some "NoneType"
  | .bl _ => some "bool"
  | .int _ => some "int"
  | .str _ => some "str"
  | .tup _ => some "tuple"
  | .frl _ => some "list"
  | .ref a => match M[a]? with
    | some (.lst _) => some "list"
    | some (.dct _) => some "dict"
    | none => none
def cutL {α : Type} (xs : List α) (lo hi : Option Int) : List α := (xs.drop (HT.sIx xs.length 0 lo)).take (HT.sIx xs.length xs.length hi - HT.sIx xs.length 0 lo)

/-! ### operators -/
inductive O2 where | add | sub | mul | fdiv | mod | pow
inductive Cm where | eq | ne | lt | le | gt | ge | is | isn | mem | nmem
instance : DecidableEq O2 := fun a b => by cases a <;> cases b <;> first | exact isTrue rfl | exact isFalse (fun h => nomatch h)
instance : DecidableEq Cm := fun a b => by cases a <;> cases b <;> first | exact isTrue rfl | exact isFalse (fun h => nomatch h)
def newM (M : Mem) (o : MO) : RD := .ok (.ref M.length, M ++ [o])
def mulOk (i j : Int) : Bool := decide (i.natAbs.log2 + j.natAbs.log2 < 1000000)
def divOk (j : Int) : Bool := decide (0 < j) && decide (j.natAbs.log2 < 9000)
def powOk (i j : Int) : Bool := decide (0 ≤ j) && decide (j ≤ 1000000) && decide (i.natAbs < 2 ^ 64)
def binD (M : Mem) : O2 → D → D → RD
  | .add, .int i, .int j => .ok (.int (i + j), M)
  | .add, .str x, .str y => R.when (x.length + y.length ≤ sizeLine) (.ok (.str (x ++ y), M))
  | .add, .tup xs, .tup ys => R.when (xs.length + ys.length ≤ sizeLine) (.ok (.tup (xs ++ ys), M))
  | .add, .ref a, .ref b => match M[a]?, M[b]? with
    | some (.lst xs), some (.lst ys) => R.when (xs.length + ys.length ≤ sizeLine) (newM M (.lst (xs ++ ys)))
    | _, _ => .bad
  | .sub, .int i, .int j => .ok (.int (i - j), M)
  | .mul, .int i, .int j => R.when (mulOk i j = true) (.ok (.int (i * j), M))
  | .fdiv, .int i, .int j => R.when (divOk j = true) (.ok (.int (i / j), M))
  | .mod, .int i, .int j => R.when (0 < j) (.ok (.int (i % j), M))
  | .pow, .int i, .int j => R.when (powOk i j = true) (.ok (.int (i ^ j.toNat), M))
  | .add, .bl k, .int j => .ok (.int ((if k = true then (1 : Int) else 0) + j), M)
  | .sub, .bl k, .int j => .ok (.int ((if k = true then (1 : Int) else 0) - j), M)
  | .add, .int i, .bl k => .ok (.int (i + if k = true then (1 : Int) else 0), M)
  | _, _, _ => .bad
/-- what is in a list, a tuple of flat things -/
def flatD : D → Bool
  | .tup _ => false | .frl _ => false | .ref _ => false | _ => true
def eqF : D → D → Bool
  | .non, .non => true
  | .bl a, .bl b => a == b
  | .int i, .int j => i == j
  | .str x, .str y => x == y
  | .bl a, .int j => (if a then 1 else 0) == j
  | .int i, .bl b => i == (if b then 1 else 0)
  | _, _ => false
def inF (x : D) (xs : List D) : Bool := xs.any fun y => eqF y x
open Classical in
noncomputable def inD (M : Mem) (x c : D) : Option Bool := match c with
  | .str z => match x with
    | .str y => some (!(Builtin.Str.occurrences z y 0 z.length 1).isEmpty)
    | _ => none
  | .tup xs => if (flatD x && xs.all flatD) = true then some (inF x xs) else
        (tree M x).bind fun d => (tree M c).bind fun e => match e with
          | .tuple ds => if (SeqAt.shaped d && SeqAt.shaped (.tuple ds)) = true then some (ds.any fun z => PyData.eqv z d) else none
          | _ => none
  | .ref a => match M[a]? with
    | some (.dct kvs) => (keyD x).map fun k => (lookD kvs k).isSome
    | some (.lst xs) => if (flatD x && xs.all flatD) = true then some (inF x xs) else
        (tree M x).bind fun d => (tree M c).bind fun e => match e with
          | .list ds => if (SeqAt.shaped d && SeqAt.shaped (.list ds)) = true then some (ds.any fun z => PyData.eqv z d) else none
          | _ => none
    | _ => none
  | _ => none
noncomputable def cmpD (M : Mem) : Cm → D → D → Option Bool
  | .eq, .str x, .str y => some (x == y)
  | .ne, .str x, .str y => some (!(x == y))
  | .eq, d, e => eqD M d e
  | .ne, d, e => (eqD M d e).map (!·)
  | .lt, .int i, .int j => some (decide (i < j))
  | .le, .int i, .int j => some (decide (i ≤ j))
  | .gt, .int i, .int j => some (decide (j < i))
  | .ge, .int i, .int j => some (decide (j ≤ i))
  | .is, .non, .non => some true
  | .is, .ref _, .non => some false
  | .is, .tup _, .non => some false
  | .is, .frl _, .non => some false
  | .is, .int _, .non => some false
  | .is, .str _, .non => some false
  | .is, .bl _, .non => some false
  | .isn, .non, .non => some false
  | .isn, .ref _, .non => some true
  | .isn, .tup _, .non => some true
  | .isn, .frl _, .non => some true
  | .isn, .int _, .non => some true
  | .isn, .str _, .non => some true
  | .isn, .bl _, .non => some true
  | .mem, x, c => inD M x c
  | .nmem, x, c => (inD M x c).map (!·)
  | _, _, _ => none
def idxD (M : Mem) (x i : D) : Option D := match x with
  | .tup xs => match i with | .int k => L2.atI xs k | _ => none
  | .frl xs => match i with | .int k => L2.atI xs k | _ => none
  | .str z => match i with
    | .int k => if z.length ≤ sizeLine then (L2.atI z.cps.toList k).map fun c => .str ⟨#[c]⟩ else none
    | _ => none
  | .ref a => match M[a]? with
    | some (.lst xs) => match i with | .int k => L2.atI xs k | _ => none
    | some (.dct kvs) => (keyD i).bind fun k => lookD kvs k
    | none => none
  | _ => none
def slcD (M : Mem) (x : D) (lo hi : Option Int) : RD := match x with
  | .tup xs => .ok (.tup (cutL xs lo hi), M)
  | .frl xs => newM M (.lst (cutL xs lo hi))
  | .str z => R.when (z.length ≤ sizeLine) (.ok (.str (L2.cutS z lo hi), M))
  | .ref a => match M[a]? with
    | some (.lst xs) => newM M (.lst (cutL xs lo hi))
    | _ => .bad
  | _ => .bad
def revD (M : Mem) (x : D) : RD := match x with
  | .tup xs => .ok (.tup xs.reverse, M)
  | .ref a => match M[a]? with
    | some (.lst xs) => newM M (.lst xs.reverse)
    | _ => .bad
  | _ => .bad
end Cp

namespace Cp
open PySem

/-! ### the compact syntax -/
inductive Lit where | non | bl (b : Bool) | int (i : Int) | str (x : Str)
def Lit.d : Lit → D
  | .non => .non | .bl b => .bl b | .int i => .int i | .str x => .str x
inductive Bi where | len | list | tuple | str | repr | ord | int | all | any | sum | sorted | max | min | dict | set
def Bi.nm : Bi → Str
  | .len => "len" | .list => "list" | .tuple => "tuple" | .str => "str" | .repr => "repr" | .ord => "ord" | .int => "int"
  | .all => "all" | .any => "any" | .sum => "sum" | .sorted => "sorted" | .max => "max" | .min => "min" | .dict => "dict" | .set => "set"
inductive Me where | append | extend | pop | join | get | update | setdefault | index | insert | count | split | remove | items
def Me.nm : Me → Str
  | .append => "append" | .extend => "extend" | .pop => "pop" | .join => "join" | .get => "get" | .update => "update" | .setdefault => "setdefault"
  | .index => "index" | .insert => "insert" | .count => "count" | .split => "split" | .remove => "remove" | .items => "items"
mutual
inductive E where
  | var (i : Nat)
  | lit (c : Lit)
  | glob (g : Nat)
  | bin (o : O2) (a b : E)
  | neg (a : E)
  | not (a : E)
  | bool (c : Bool) (es : Es)
  | cmp (c : Cm) (a b : E)
  | chain (c1 c2 : Cm) (a b d : E)
  | ite (c : T) (a b : E)
  | tup (es : Es)
  | lst (es : Es)
  | dic (ps : Ps)
  | idx (a b : E)
  | slc (a : E) (lo hi : O)
  | rev (a : E)
  | call (f : Nat) (es : Es)
  | bi (b : Bi) (es : Es)
  | isi (a : E) (t : String)
  | meth (m : Me) (o : E) (es : Es)
  | lc (elt : E) (t : Tg) (it : It) (cond : Ts) (own : List Nat)
  | ssc (elt : E) (t : Tg) (it : It) (cond : Ts) (own : List Nat)
  | trg (a : E)
  | lrg (a : E)
inductive Es where | nil | cons (e : E) (es : Es)
inductive Ps where | nil | cons (k v : E) (ps : Ps)
/-- a test -/
inductive T where | val (e : E) | not (t : T) | bool (c : Bool) (ts : Ts)
inductive Ts where | nil | cons (t : T) (ts : Ts)
/-- a part of a slice -/
inductive O where | no | at (e : E)
inductive It where | ex (e : E) | rg1 (a : E) | rg2 (a b : E)
inductive Tg where | nm (i : Nat) | tp (is : List Nat) | sb (o i : E)
inductive S where
  | asg (t : Tg) (e : E)
  | asgc (i : Nat) (e : E)
  | par (is : List Nat) (es : Es)
  | expr (e : E)
  | iff (c : T) (a b : Ss)
  | whl (c : T) (b : Ss)
  | fr (t : Tg) (it : It) (b : Ss)
  | ret (e : E)
  | ret0 | brk | cont | pass | doc
inductive Ss where | nil | cons (s : S) (ss : Ss)
end

/-! ### its run -/
inductive Fl where | nx | bk | ct | rt (d : D)
/-- what is walked: items told, or a list as it stands at each turn -/
inductive Src where | its (xs : List D) | live (a : Nat)
abbrev RS := R (Fl × Ev × Mem)
/-- more turns than any loop takes -/
@[irreducible] def wf : Nat := 1099511627776
def whileR (c : Ev → Mem → R (Bool × Mem)) (b : Ev → Mem → RS) : Nat → Ev → Mem → RS
  | 0, _, _ => .bad
  | n + 1, s, M => (c s M).bind fun p => match p.1 with
    | true => (b s p.2).bind fun q => match q.1 with
      | .nx => whileR c b n q.2.1 q.2.2
      | .ct => whileR c b n q.2.1 q.2.2
      | .bk => .ok (.nx, q.2.1, q.2.2)
      | .rt d => .ok (.rt d, q.2.1, q.2.2)
    | false => .ok (.nx, s, p.2)
def Src.at_ : Src → Mem → Nat → Option (Option D)
  | .its xs, _, i => some xs[i]?
  | .live a, M, i => match M[a]? with
    | some (.lst xs) => some xs[i]?
    | _ => none
def forX (c : Src) (set : D → Ev → Mem → R (Ev × Mem)) (b : Ev → Mem → RS) : Nat → Nat → Ev → Mem → RS
  | 0, _, _, _ => .bad
  | n + 1, i, s, M => R.of (c.at_ M i) fun o => match o with
    | none => .ok (.nx, s, M)
    | some x => (set x s M).bind fun p => (b p.1 p.2).bind fun q => match q.1 with
      | .nx => forX c set b n (i + 1) q.2.1 q.2.2
      | .ct => forX c set b n (i + 1) q.2.1 q.2.2
      | .bk => .ok (.nx, q.2.1, q.2.2)
      | .rt d => .ok (.rt d, q.2.1, q.2.2)
def wipeE (s : Ev) : List Nat → Ev
  | [] => s
  | v :: vs => (wipeE s vs).set v none
/-- one turn of a comprehension: nothing, or an item more -/
def turnC (set : D → Ev → Mem → R (Ev × Mem)) (cond : Ev → Mem → R (Bool × Mem)) (elt : Ev → Mem → RD) (x : D) (s : Ev) (M : Mem) (acc : List D) : R (List D × Mem) :=
  (set x s M).bind fun p => (cond p.1 p.2).bind fun q => match q.1 with
    | true => (elt p.1 q.2).bind fun r => R.when (acc.length < sizeLine) (.ok (acc ++ [r.1], r.2))
    | false => .ok (acc, q.2)
def compX (c : Src) (set : D → Ev → Mem → R (Ev × Mem)) (cond : Ev → Mem → R (Bool × Mem)) (elt : Ev → Mem → RD) (s : Ev) : Nat → Nat → Mem → List D → R (List D × Mem)
  | 0, _, _, _ => .bad
  | n + 1, i, M, acc => R.of (c.at_ M i) fun o => match o with
    | none => .ok (acc, M)
    | some x => (turnC set cond elt x s M acc).bind fun p => compX c set cond elt s n (i + 1) p.2 p.1
def setsE : List Nat → List D → Ev → Ev
  | i :: is, d :: ds, s => setsE is ds (s.set i (some d))
  | _, _, s => s
def setItem (M : Mem) (o i v : D) : R Mem := match o with
  | .ref a => match M[a]? with
    | some (.lst xs) => match i with
      | .int k => R.of (L2.ixN xs.length k) fun j => .ok (M.set a (.lst (xs.set j v)))
      | _ => .bad
    | some (.dct kvs) => R.of (keyD i) fun k => R.when (kvs.length < sizeLine) (.ok (M.set a (.dct (putD kvs k v))))
    | _ => .bad
  | _ => .bad
def pairsD : List D → List D → Option (List (L2.Key × D))
  | [], [] => some []
  | k :: ks, v :: vs => (keyD k).bind fun k => (pairsD ks vs).map fun r => (k, v) :: r
  | _, _ => none
def mergeD (kvs more : List (L2.Key × D)) : List (L2.Key × D) := more.foldl (fun acc kv => putD acc kv.1 kv.2) kvs
/-- the items of a list -/
def listD (M : Mem) : D → Option (List D)
  | .frl xs => some xs
  | .ref a => match M[a]? with
    | some (.lst xs) => some xs
    | _ => none
  | _ => none
def boolsD : List D → Option (List Bool)
  | [] => some []
  | .bl b :: r => (boolsD r).map fun bs => b :: bs
  | _ => none
def intsD : List D → Option (List Int)
  | [] => some []
  | .int i :: r => (intsD r).map fun bs => i :: bs
  | _ => none
def strsD : List D → Option (List Str)
  | [] => some []
  | .str i :: r => (strsD r).map fun bs => i :: bs
  | _ => none
def rngD (lo hi : Int) : List D := (List.range (hi - lo).toNat).map fun i => .int (lo + (i : Nat))
def rngOk (lo hi : Int) : Bool := decide (-(2 ^ 62) ≤ lo) && decide (lo < 2 ^ 62) && decide (-(2 ^ 62) ≤ hi) && decide (hi < 2 ^ 62)
def rngOk2 (lo hi : Int) : Bool := rngOk lo hi && decide ((hi - lo).toNat ≤ 2 ^ 24)
/-- the ints in order -/
def sortI (ns : List Int) : List Int := ns.mergeSort fun a b => decide (a ≤ b)
/-- the members of a set in their order -/
def uniq {α : Type} [DecidableEq α] : List α → List α
  | [] => []
  | x :: l => if x ∈ uniq l then uniq l else x :: uniq l
def setI (ns : List Int) : List Int := sortI (uniq ns)
def leS (a b : Str) : Bool := !decide (b.cps.toList < a.cps.toList)
def setT (ss : List Str) : List Str := (uniq ss).mergeSort leS
def setD (xs : List D) : Option (List D) := match intsD xs with
  | some ns => some ((setI ns).map .int)
  | none => (strsD xs).map fun ss => (setT ss).map .str
noncomputable def biD (M : Mem) : Bi → List D → RD
  | .len, [x] => R.of (lenD M x) fun n => .ok (.int n, M)
  | .list, [x] => R.of (itemsD M x) fun xs => newM M (.lst xs)
  | .tuple, [x] => R.of (itemsD M x) fun xs => .ok (.tup xs, M)
  | .str, [.int i] => R.when (i.natAbs.log2 < 1920) (.ok (.str (toString i), M))
  | .str, [.bl b] => .ok (.str (if b = true then "True" else "False"), M)
  | .repr, [x] => R.of (tree M x) fun p => R.when (p.showable = true ∧ p.depth ≤ 64 ∧ p.shown.length ≤ sizeLine) (.ok (.str p.shown, M))
  | .ord, [.str x] => match x.cps.toList with | [c] => .ok (.int c, M) | _ => .bad
  | .int, [.int i] => .ok (.int i, M)
  | .int, [.bl b] => .ok (.int (if b then 1 else 0), M)
  | .all, [x] => R.of (listD M x) fun xs => R.of (boolsD xs) fun bs => .ok (.bl (bs.all id), M)
  | .any, [x] => R.of (listD M x) fun xs => R.of (boolsD xs) fun bs => .ok (.bl (bs.any id), M)
  | .sum, [x] => R.of (listD M x) fun xs => R.of (intsD xs) fun bs => .ok (.int bs.sum, M)
  | .min, [.int i, .int j] => .ok (.int (if j < i then j else i), M)
  | .max, [.int i, .int j] => .ok (.int (if j > i then j else i), M)
  | .sorted, [x] => R.of (listD M x) fun xs => R.of (intsD xs) fun ns => R.when (ns.length < 64) (newM M (.lst ((sortI ns).map .int)))
  | _, _ => .bad
/-- the kind of thing that a method is asked of -/
def Me.ofS : Me → Bool | .join => true | .split => true | _ => false
def Me.ofK : Me → Bool | .get => true | .update => true | .setdefault => true | .items => true | _ => false
def Me.ofL : Me → Bool | .append => true | .extend => true | .pop => true | .index => true | .insert => true | .count => true | .remove => true | _ => false
def tyM (m : Me) (M : Mem) : D → Bool
  | .str _ => m.ofS
  | .ref a => match M[a]? with
    | some (.lst _) => m.ofL
    | some (.dct _) => m.ofK
    | _ => false
  | _ => false
def appendD (M : Mem) (o : D) (ds : List D) : RD := match o, ds with
  | .ref a, [x] => match M[a]? with
    | some (.lst xs) => R.when (xs.length < sizeLine) (.ok (.non, M.set a (.lst (xs ++ [x]))))
    | _ => .bad
  | _, _ => .bad
def extendD (M : Mem) (o : D) (ds : List D) : RD := match o, ds with
  | .ref a, [.ref b] => match M[a]?, M[b]? with
    | some (.lst xs), some (.lst ys) => R.when (xs.length + ys.length ≤ sizeLine) (.ok (.non, M.set a (.lst (xs ++ ys))))
    | _, _ => .bad
  | _, _ => .bad
def popD (M : Mem) (o : D) (ds : List D) : RD := match o, ds with
  | .ref a, [] => match M[a]? with
    | some (.lst xs) => R.of (xs[xs.length - 1]?) fun y => .ok (y, M.set a (.lst xs.dropLast))
    | _ => .bad
  | .ref a, [.int i] => match M[a]? with
    | some (.lst xs) => R.of (L2.ixN xs.length i) fun j => R.of xs[j]? fun y => .ok (y, M.set a (.lst (xs.eraseIdx j)))
    | _ => .bad
  | _, _ => .bad
def joinD (M : Mem) (o : D) (ds : List D) : RD := match o, ds with
  | .str z, [x] => R.of (itemsD M x) fun xs => R.of (strsD xs) fun ys =>
      R.when ((ys.map (·.length)).sum + ys.length * z.length ≤ 16777216) (.ok (.str (Txt.join z ys), M))
  | _, _ => .bad
def getD (M : Mem) (o : D) (ds : List D) : RD := match o, ds with
  | .ref a, [k] => match M[a]? with
    | some (.dct kvs) => R.of (keyD k) fun k => .ok ((lookD kvs k).getD .non, M)
    | _ => .bad
  | .ref a, [k, d] => match M[a]? with
    | some (.dct kvs) => R.of (keyD k) fun k => .ok ((lookD kvs k).getD d, M)
    | _ => .bad
  | _, _ => .bad
def meD (M : Mem) (m : Me) (o : D) (ds : List D) : RD := match m with
  | .append => appendD M o ds
  | .extend => extendD M o ds
  | .pop => popD M o ds
  | .join => joinD M o ds
  | .get => getD M o ds
  | _ => .bad

/-- the module: its constants, its defs -/
structure Fn where
  name : Str
  ps : List Str
  names : List Str
  body : Ss
structure Mdl where
  con : List (Str × D)
  fns : List Fn
abbrev Cf := Nat → List D → Mem → RD
section
variable (G : Mdl) (cf : Cf)
mutual
noncomputable def ev : E → Ev → Mem → RD
  | .var i, s, M => match s[i]? with | some (some d) => .ok (d, M) | _ => .bad
  | .lit c, _, M => .ok (c.d, M)
  | .glob g, _, M => match G.con[g]? with | some p => .ok (p.2, M) | none => .bad
  | .bin o a b, s, M => (ev a s M).bind fun p => (ev b s p.2).bind fun q => binD q.2 o p.1 q.1
  | .neg a, s, M => (ev a s M).bind fun p => match p.1 with | .int i => .ok (.int (-i), p.2) | _ => .bad
  | .not a, s, M => (ev a s M).bind fun p => match p.1 with | .bl b => .ok (.bl (!b), p.2) | _ => .bad
  | .bool c es, s, M => evV es c s M
  | .cmp c a b, s, M => (ev a s M).bind fun p => (ev b s p.2).bind fun q => R.of (cmpD q.2 c p.1 q.1) fun k => .ok (.bl k, q.2)
  | .chain c1 c2 a b d, s, M => (ev a s M).bind fun p => (ev b s p.2).bind fun q => R.of (cmpD q.2 c1 p.1 q.1) fun k => match k with
    | true => (ev d s q.2).bind fun r => R.of (cmpD r.2 c2 q.1 r.1) fun k => .ok (.bl k, r.2)
    | false => .ok (.bl false, q.2)
  | .ite c a b, s, M => (evT c s M).bind fun p => match p.1 with | true => ev a s p.2 | false => ev b s p.2
  | .tup es, s, M => (evs es s M).bind fun p => R.when (p.1.length ≤ sizeLine) (.ok (.tup p.1, p.2))
  | .lst es, s, M => (evs es s M).bind fun p => R.when (p.1.length ≤ sizeLine) (newM p.2 (.lst p.1))
  | .dic ps, s, M => (evp ps s M).bind fun p => R.of (pairsD (p.1.map (·.1)) (p.1.map (·.2))) fun kvs => R.when (kvs.length ≤ 15) (newM p.2 (.dct (mergeD [] kvs)))
  | .idx a b, s, M => (ev a s M).bind fun p => (ev b s p.2).bind fun q => R.of (idxD q.2 p.1 q.1) fun d => .ok (d, q.2)
  | .slc a lo hi, s, M => (ev a s M).bind fun p => (evO lo s p.2).bind fun q => (evO hi s q.2).bind fun r => slcD r.2 p.1 q.1 r.1
  | .rev a, s, M => (ev a s M).bind fun p => revD p.2 p.1
  | .call f es, s, M => (evs es s M).bind fun p => cf f p.1 p.2
  | .bi b es, s, M => (evs es s M).bind fun p => biD p.2 b p.1
  | .isi a t, s, M => (ev a s M).bind fun p => R.of (tyD p.2 p.1) fun u => R.of (L2.kitB u t) fun k => .ok (.bl k, p.2)
  | .meth m o es, s, M => (ev o s M).bind fun p => R.when (tyM m p.2 p.1 = true) ((evs es s p.2).bind fun q => meD q.2 m p.1 q.1)
  | .lc elt t it cond own, s, M => (evI it s M).bind fun p =>
    (compX p.1 (evG t) (fun s M => evTs cond true s M) (fun s M => ev elt s M) (wipeE s own) wf 0 p.2 []).bind fun q => newM q.2 (.lst q.1)
  | .ssc elt t it cond own, s, M => (evI it s M).bind fun p =>
    (compX p.1 (evG t) (fun s M => evTs cond true s M) (fun s M => ev elt s M) (wipeE s own) wf 0 p.2 []).bind fun q => R.of (setD q.1) fun ks => R.when (q.1.length < 4096) (newM q.2 (.lst ks))
  | .trg a, s, M => (ev a s M).bind fun p => match p.1 with | .int n => R.when (rngOk2 0 n = true) (.ok (.tup (rngD 0 n), p.2)) | _ => .bad
  | .lrg a, s, M => (ev a s M).bind fun p => match p.1 with | .int n => R.when (rngOk2 0 n = true) (newM p.2 (.lst (rngD 0 n))) | _ => .bad
/-- a part of a slice -/
noncomputable def evO : O → Ev → Mem → R (Option Int × Mem)
  | .no, _, M => .ok (none, M)
  | .at e, s, M => (ev e s M).bind fun p => match p.1 with | .int i => .ok (some i, p.2) | _ => .bad
noncomputable def evT : T → Ev → Mem → R (Bool × Mem)
  | .not a, s, M => (evT a s M).bind fun p => .ok (!p.1, p.2)
  | .bool c ts, s, M => evTs ts c s M
  | .val e, s, M => (ev e s M).bind fun p => R.of (truth p.2 p.1) fun b => .ok (b, p.2)
noncomputable def evs : Es → Ev → Mem → R (List D × Mem)
  | .nil, _, M => .ok ([], M)
  | .cons e es, s, M => (ev e s M).bind fun p => (evs es s p.2).bind fun q => .ok (p.1 :: q.1, q.2)
/-- and, or as a value: all but the last truths -/
noncomputable def evV : Es → Bool → Ev → Mem → RD
  | .nil, c, _, M => .ok (.bl c, M)
  | .cons e es, c, s, M => (ev e s M).bind fun p => match p.1 with
    | .bl b => if b = c then evV es c s p.2 else .ok (.bl b, p.2)
    | _ => .bad
noncomputable def evTs : Ts → Bool → Ev → Mem → R (Bool × Mem)
  | .nil, c, _, M => .ok (c, M)
  | .cons t ts, c, s, M => (evT t s M).bind fun p => if p.1 = c then evTs ts c s p.2 else .ok (p.1, p.2)
noncomputable def evp : Ps → Ev → Mem → R (List (D × D) × Mem)
  | .nil, _, M => .ok ([], M)
  | .cons k v ps, s, M => (ev k s M).bind fun p => (ev v s p.2).bind fun q => (evp ps s q.2).bind fun r => .ok ((p.1, q.1) :: r.1, r.2)
noncomputable def evI : It → Ev → Mem → R (Src × Mem)
  | .ex e, s, M => (ev e s M).bind fun p => match p.1 with
    | .tup xs => .ok (.its xs, p.2)
    | .str z => .ok (.its (z.cps.toList.map fun c => .str ⟨#[c]⟩), p.2)
    | .frl xs => .ok (.its xs, p.2)
    | .ref a => match p.2[a]? with
      | some (.lst _) => .ok (.live a, p.2)
      | _ => .bad
    | _ => .bad
  | .rg1 a, s, M => (ev a s M).bind fun p => match p.1 with | .int n => R.when (rngOk 0 n = true) (.ok (.its (rngD 0 n), p.2)) | _ => .bad
  | .rg2 a b, s, M => (ev a s M).bind fun p => (ev b s p.2).bind fun q => match p.1, q.1 with
    | .int m, .int n => R.when (rngOk m n = true) (.ok (.its (rngD m n), q.2))
    | _, _ => .bad
/-- a target is given a value -/
noncomputable def evG : Tg → D → Ev → Mem → R (Ev × Mem)
  | .nm i, d, s, M => .ok (s.set i (some d), M)
  | .tp is, d, s, M => match d with
    | .tup ds => R.when (ds.length = is.length) (.ok (setsE is ds s, M))
    | _ => .bad
  | .sb o i, d, s, M => (ev o s M).bind fun p => (ev i s p.2).bind fun q => (setItem q.2 p.1 q.1 d).bind fun M' => .ok (s, M')
end
mutual
noncomputable def evS : S → Ev → Mem → RS
  | .asg t e, s, M => (ev G cf e s M).bind fun p => (evG G cf t p.1 s p.2).bind fun q => .ok (.nx, q.1, q.2)
  | .asgc i e, s, M => (ev G cf e s M).bind fun p => .ok (.nx, s.set i (some p.1), p.2)
  | .par is es, s, M => (evs G cf es s M).bind fun p => R.when (p.1.length = is.length) (.ok (.nx, setsE is p.1 s, p.2))
  | .expr e, s, M => (ev G cf e s M).bind fun p => .ok (.nx, s, p.2)
  | .iff c a b, s, M => (evT G cf c s M).bind fun p => match p.1 with | true => evSs a s p.2 | false => evSs b s p.2
  | .whl c b, s, M => whileR (fun s M => evT G cf c s M) (fun s M => evSs b s M) wf s M
  | .fr t it b, s, M => (evI G cf it s M).bind fun p => forX p.1 (evG G cf t) (fun s M => evSs b s M) wf 0 s p.2
  | .ret e, s, M => (ev G cf e s M).bind fun p => .ok (.rt p.1, s, p.2)
  | .ret0, s, M => .ok (.rt .non, s, M)
  | .brk, s, M => .ok (.bk, s, M)
  | .cont, s, M => .ok (.ct, s, M)
  | .pass, s, M => .ok (.nx, s, M)
  | .doc, s, M => .ok (.nx, s, M)
noncomputable def evSs : Ss → Ev → Mem → RS
  | .nil, s, M => .ok (.nx, s, M)
  | .cons a r, s, M => (evS a s M).bind fun q => match q.1 with
    | .nx => evSs r q.2.1 q.2.2
    | .bk => .ok (.bk, q.2.1, q.2.2)
    | .ct => .ok (.ct, q.2.1, q.2.2)
    | .rt d => .ok (.rt d, q.2.1, q.2.2)
end
/-- a def's own end -/
def endF (r : RS) : RD := r.bind fun q => match q.1 with
  | .rt d => .ok (d, q.2.2)
  | .nx => .ok (.non, q.2.2)
  | _ => .bad
end
noncomputable def callF (G : Mdl) : Nat → Cf
  | 0, _, _, _ => .bad
  | n + 1, f, args, M => match G.fns[f]? with
    | some F => R.when (args.length = F.ps.length) (endF (evSs G (callF G n) F.body (args.map some ++ List.replicate (F.names.length - F.ps.length) none) M))
    | none => .bad
end Cp

namespace Cp
open PySem L2

/-- a list that nobody may change -/
def FrzL (K : PySem.W.Frag) (H : Hp) (a : Addr) (vs : List V) : Prop := (∃ o, H a = some (.frz o (.lst vs))) ∨
  ∃ (o : Obj) (its : Array Value) (n : Nat), K.lookup a = some o ∧ o.cls = .type "list" ∧ o.dict = none ∧ o.data = .seq its n ∧ its.size ≤ sizeLine ∧ Vals vs its.toList
theorem FrzL.sq {K : PySem.W.Frag} {H : Hp} {a : Addr} {vs : List V} (h : FrzL K H a vs) : SqL K H a vs := by
  rcases h with ⟨o, h⟩ | h
  · exact .inl (.inr ⟨o, h⟩)
  · exact .inr h
/-! ### what the values stand for: js, the addresses of the numbers -/
mutual
inductive Rep (K : PySem.W.Frag) (js : List Addr) (H : Hp) : D → V → Prop
  | non : Rep K js H .non .non
  | bl (b : Bool) : Rep K js H (.bl b) (.bl b)
  | int (i : Int) : Rep K js H (.int i) (.int i)
  | str (x : Str) : Rep K js H (.str x) (.str x)
  | tup {xs : List D} {a : Addr} {vs : List V} : SqT K H a vs → Reps K js H xs vs → Rep K js H (.tup xs) (.ref a)
  | frl {xs : List D} {a : Addr} {vs : List V} : FrzL K H a vs → Reps K js H xs vs → Rep K js H (.frl xs) (.ref a)
  | ref {n : Nat} {a : Addr} : js[n]? = some a → Rep K js H (.ref n) (.ref a)
inductive Reps (K : PySem.W.Frag) (js : List Addr) (H : Hp) : List D → List V → Prop
  | nil : Reps K js H [] []
  | cons {x : D} {v : V} {xs : List D} {vs : List V} : Rep K js H x v → Reps K js H xs vs → Reps K js H (x :: xs) (v :: vs)
end
/-- what stands at an address for what may change -/
inductive RepO (K : PySem.W.Frag) (js : List Addr) (H : Hp) : MO → HO → Prop
  | lst {xs : List D} {vs : List V} : Reps K js H xs vs → RepO K js H (.lst xs) (.lst vs)
  | dct {kvs : List (Key × D)} {ws : List (Key × V)} : kvs.map (·.1) = ws.map (·.1) → Reps K js H (kvs.map (·.2)) (ws.map (·.2)) → RepO K js H (.dct kvs) (.dK ws)
structure Tie (K : PySem.W.Frag) (js : List Addr) (H : Hp) (M : Mem) : Prop where
  len : js.length = M.length
  nd : js.Nodup
  at_ : ∀ (n : Nat) (o : MO), M[n]? = some o → ∃ a h, js[n]? = some a ∧ H a = some h ∧ RepO K js H o h
structure Ext (js : List Addr) (H : Hp) (js' : List Addr) (H' : Hp) : Prop where
  pre : ∃ more, js' = js ++ more ∧ ∀ b ∈ more, H b = none
  keep : ∀ b o, H b = some o → b ∉ js → H' b = some o

section
variable {K : PySem.W.Frag} {js js' js2 : List Addr} {H H' H2 : Hp} {M M' : Mem}
theorem RepO.noTup {o : MO} {h : HO} (r : RepO K js H o h) : (∀ vs, h ≠ .tup vs) ∧ ∀ ob u, h ≠ .frz ob u := by
  cases r with
  | lst _ => exact ⟨fun _ e => (nomatch e), fun _ _ e => (nomatch e)⟩
  | dct _ _ => exact ⟨fun _ e => (nomatch e), fun _ _ e => (nomatch e)⟩
theorem Tie.find (T : Tie K js H M) {a : Addr} (h : a ∈ js) : ∃ (n : Nat) (o : MO) (u : HO), js[n]? = some a ∧ M[n]? = some o ∧ H a = some u ∧ RepO K js H o u := by
  obtain ⟨n, hn, e⟩ := List.getElem_of_mem h
  have hm : n < M.length := by rw [← T.len]; exact hn
  obtain ⟨a', u, e1, e2, e3⟩ := T.at_ n M[n] (List.getElem?_eq_getElem hm)
  have : a' = a := by
    rw [List.getElem?_eq_getElem hn, e] at e1
    exact (Option.some.inj e1).symm
  subst this
  exact ⟨n, _, u, e1, List.getElem?_eq_getElem hm, e2, e3⟩
theorem Tie.notin (T : Tie K js H M) {p : Addr} (h : H p = none) : p ∉ js := fun hm => by
  obtain ⟨_, _, u, _, _, e, _⟩ := T.find hm
  rw [h] at e; cases e
theorem Tie.tupout (T : Tie K js H M) {a : Addr} {vs : List V} (h : Rd H a (.tup vs)) : a ∉ js := fun hm => by
  obtain ⟨_, _, u, _, _, e, r⟩ := T.find hm
  rcases h with h | ⟨o, h⟩
  · rw [h] at e; cases e; exact r.noTup.1 _ rfl
  · rw [h] at e; cases e; exact r.noTup.2 _ _ rfl
theorem Ext.refl : Ext js H js H := ⟨⟨[], by simp, by simp⟩, fun _ _ h _ => h⟩
theorem Ext.trans (T : Tie K js' H' M') (e : Ext js H js' H') (f : Ext js' H' js2 H2) : Ext js H js2 H2 := by
  obtain ⟨m1, rfl, n1⟩ := e.pre
  obtain ⟨m2, rfl, n2⟩ := f.pre
  refine ⟨⟨m1 ++ m2, by simp, fun b hb => ?_⟩, fun b o h hn => ?_⟩
  · rcases List.mem_append.mp hb with hb | hb
    · exact n1 b hb
    · cases q : H b with
      | none => rfl
      | some o =>
        exfalso
        have hz := n2 b hb
        by_cases hj : b ∈ js
        · obtain ⟨_, _, u, _, _, eu, _⟩ := T.find (List.mem_append_left m1 hj)
          rw [hz] at eu; cases eu
        · have := e.keep b o q hj
          rw [hz] at this; cases this
  · refine f.keep b o (e.keep b o h hn) fun hm => ?_
    rcases List.mem_append.mp hm with hm | hm
    · exact hn hm
    · rw [n1 b hm] at h; cases h
theorem Ext.sqt (T : Tie K js H M) (e : Ext js H js' H') {a : Addr} {vs : List V} (h : SqT K H a vs) : SqT K H' a vs := by
  rcases h with (h | ⟨o, h⟩) | h
  · exact .inl (.inl (e.keep a _ h (T.tupout (.inl h))))
  · exact .inl (.inr ⟨o, e.keep a _ h (T.tupout (.inr ⟨o, h⟩))⟩)
  · exact .inr h
theorem Ext.frz (T : Tie K js H M) (e : Ext js H js' H') {a : Addr} {vs : List V} (h : FrzL K H a vs) : FrzL K H' a vs := by
  rcases h with ⟨o, h⟩ | h
  · refine .inl ⟨o, e.keep a _ h fun hm => ?_⟩
    obtain ⟨_, _, u, _, _, eu, r⟩ := T.find hm
    rw [h] at eu; cases eu; exact r.noTup.2 _ _ rfl
  · exact .inr h
theorem Ext.ix (e : Ext js H js' H') {n : Nat} {a : Addr} (h : js[n]? = some a) : js'[n]? = some a := by
  obtain ⟨m, rfl, _⟩ := e.pre
  rw [List.getElem?_append_left (List.getElem?_eq_some_iff.mp h).1]
  exact h
/-- what keeps a value's reading -/
structure Kp (K : PySem.W.Frag) (js : List Addr) (H : Hp) (js' : List Addr) (H' : Hp) : Prop where
  ix : ∀ (n : Nat) (a : Addr), js[n]? = some a → js'[n]? = some a
  sq : ∀ (a : Addr) (vs : List V), SqT K H a vs → SqT K H' a vs
  fz : ∀ (a : Addr) (vs : List V), FrzL K H a vs → FrzL K H' a vs
theorem Ext.kp (T : Tie K js H M) (e : Ext js H js' H') : Kp K js H js' H' := ⟨fun _ _ h => e.ix h, fun _ _ h => e.sqt T h, fun _ _ h => e.frz T h⟩
mutual
theorem Rep.kp (e : Kp K js H js' H') : ∀ {d : D} {v : V}, Rep K js H d v → Rep K js' H' d v
  | _, _, .non => .non
  | _, _, .bl b => .bl b
  | _, _, .int i => .int i
  | _, _, .str x => .str x
  | _, _, .tup h r => .tup (e.sq _ _ h) (Reps.kp e r)
  | _, _, .frl h r => .frl (e.fz _ _ h) (Reps.kp e r)
  | _, _, .ref h => .ref (e.ix _ _ h)
theorem Reps.kp (e : Kp K js H js' H') : ∀ {d : List D} {v : List V}, Reps K js H d v → Reps K js' H' d v
  | _, _, .nil => .nil
  | _, _, .cons h r => .cons (Rep.kp e h) (Reps.kp e r)
end
theorem RepO.kp (e : Kp K js H js' H') {o : MO} {h : HO} (r : RepO K js H o h) : RepO K js' H' o h := by
  cases r with
  | lst r => exact .lst (r.kp e)
  | dct k r => exact .dct k (r.kp e)
theorem Rep.ext (T : Tie K js H M) (e : Ext js H js' H') {d : D} {v : V} (r : Rep K js H d v) : Rep K js' H' d v := r.kp (e.kp T)
theorem Reps.ext (T : Tie K js H M) (e : Ext js H js' H') {d : List D} {v : List V} (r : Reps K js H d v) : Reps K js' H' d v := r.kp (e.kp T)
theorem RepO.ext (T : Tie K js H M) (e : Ext js H js' H') {o : MO} {h : HO} (r : RepO K js H o h) : RepO K js' H' o h := r.kp (e.kp T)
theorem Reps.length : ∀ {xs : List D} {vs : List V}, Reps K js H xs vs → xs.length = vs.length
  | _, _, .nil => rfl
  | _, _, .cons _ r => by rw [List.length_cons, List.length_cons, Reps.length r]
theorem Reps.get : ∀ {xs : List D} {vs : List V} {i : Nat} {x : D}, Reps K js H xs vs → xs[i]? = some x → ∃ v, vs[i]? = some v ∧ Rep K js H x v
  | _, _, _, _, .nil, e => by simp at e
  | _, _, 0, _, .cons h _, e => by simp at e; subst e; exact ⟨_, rfl, h⟩
  | _, _, i + 1, x, .cons _ r, e => by
    obtain ⟨v, h1, h2⟩ := Reps.get (i := i) (x := x) r (by simpa using e)
    exact ⟨v, by simpa using h1, h2⟩
theorem Reps.get' {xs : List D} {vs : List V} {i : Nat} {v : V} (r : Reps K js H xs vs) (e : vs[i]? = some v) : ∃ x, xs[i]? = some x ∧ Rep K js H x v := by
  have hi := (List.getElem?_eq_some_iff.mp e).1
  have hi' : i < xs.length := by rw [r.length]; exact hi
  obtain ⟨w, h1, h2⟩ := r.get (List.getElem?_eq_getElem hi')
  rw [e] at h1
  cases h1
  exact ⟨_, List.getElem?_eq_getElem hi', h2⟩
theorem Reps.append : ∀ {xs ys : List D} {vs ws : List V}, Reps K js H xs vs → Reps K js H ys ws → Reps K js H (xs ++ ys) (vs ++ ws)
  | _, _, _, _, .nil, h => h
  | _, _, _, _, .cons h r, k => .cons h (Reps.append r k)
theorem Reps.take : ∀ {xs : List D} {vs : List V} (n : Nat), Reps K js H xs vs → Reps K js H (xs.take n) (vs.take n)
  | _, _, 0, _ => .nil
  | _, _, _ + 1, .nil => .nil
  | _, _, n + 1, .cons h r => .cons h (Reps.take n r)
theorem Reps.drop : ∀ {xs : List D} {vs : List V} (n : Nat), Reps K js H xs vs → Reps K js H (xs.drop n) (vs.drop n)
  | _, _, 0, h => h
  | _, _, _ + 1, .nil => .nil
  | _, _, n + 1, .cons _ r => Reps.drop n r
theorem Reps.set {x : D} {v : V} (h : Rep K js H x v) : ∀ {xs : List D} {vs : List V} (i : Nat), Reps K js H xs vs → Reps K js H (xs.set i x) (vs.set i v)
  | _, _, _, .nil => .nil
  | _, _, 0, .cons _ r => .cons h r
  | _, _, i + 1, .cons k r => .cons k (Reps.set h i r)
theorem Reps.reverse : ∀ {xs : List D} {vs : List V}, Reps K js H xs vs → Reps K js H xs.reverse vs.reverse
  | _, _, .nil => .nil
  | _, _, .cons h r => by
    rw [List.reverse_cons, List.reverse_cons]
    exact (Reps.reverse r).append (.cons h .nil)
theorem Reps.dropLast : ∀ {xs : List D} {vs : List V}, Reps K js H xs vs → Reps K js H xs.dropLast vs.dropLast
  | _, _, .nil => .nil
  | _, _, .cons _ .nil => .nil
  | _, _, .cons h (.cons k r) => by
    show Reps K js H (_ :: (_ :: _).dropLast) (_ :: (_ :: _).dropLast)
    exact .cons h (Reps.dropLast (.cons k r))
theorem Reps.ints : ∀ {ns : List Int} {vs : List V}, Reps K js H (ns.map D.int) vs → vs = ns.map V.int
  | [], _, h => by cases h; rfl
  | n :: ns, _, h => by
    cases h with
    | cons a r => cases a; rw [Reps.ints r]; rfl
theorem Reps.of_ints : ∀ (ns : List Int), Reps K js H (ns.map D.int) (ns.map V.int)
  | [] => .nil
  | n :: ns => .cons (.int n) (Reps.of_ints ns)
theorem Reps.strs : ∀ {ns : List Str} {vs : List V}, Reps K js H (ns.map D.str) vs → vs = ns.map V.str
  | [], _, h => by cases h; rfl
  | n :: ns, _, h => by
    cases h with
    | cons a r => cases a; rw [Reps.strs r]; rfl
theorem Reps.of_strs : ∀ (ns : List Str), Reps K js H (ns.map D.str) (ns.map V.str)
  | [] => .nil
  | n :: ns => .cons (.str n) (Reps.of_strs ns)
theorem Reps.bools : ∀ {ns : List Bool} {vs : List V}, Reps K js H (ns.map D.bl) vs → vs = ns.map V.bl
  | [], _, h => by cases h; rfl
  | n :: ns, _, h => by
    cases h with
    | cons a r => cases a; rw [Reps.bools r]; rfl

/-! ### a new object, an object changed -/
theorem Tie.new (T : Tie K js H M) {p : Addr} {o : MO} {h : HO} (hp : H p = none) (r : RepO K js H o h) :
    Ext js H (js ++ [p]) (upd H p h) ∧ Tie K (js ++ [p]) (upd H p h) (M ++ [o]) := by
  have np := T.notin hp
  have e : Ext js H (js ++ [p]) (upd H p h) := ⟨⟨[p], rfl, fun b hb => by rw [List.mem_singleton.mp hb]; exact hp⟩, fun b u hb _ => by rw [upd_ne (ne_of_none hb hp)]; exact hb⟩
  refine ⟨e, by simp [T.len], ?_, fun n u hn => ?_⟩
  · rw [List.nodup_append]
    refine ⟨T.nd, by simp, fun a ha b hb => ?_⟩
    rw [List.mem_singleton] at hb
    rintro rfl
    exact np (hb ▸ ha)
  · by_cases hl : n < M.length
    · rw [List.getElem?_append_left hl] at hn
      obtain ⟨a, q, e1, e2, e3⟩ := T.at_ n u hn
      exact ⟨a, q, e.ix e1, by rw [upd_ne (ne_of_none e2 hp)]; exact e2, e3.ext T e⟩
    · rw [List.getElem?_append_right (by omega)] at hn
      have hz : n - M.length = 0 := by
        cases q : n - M.length with
        | zero => rfl
        | succ k => rw [q] at hn; simp at hn
      rw [hz] at hn
      have hn' : u = o := by simpa using hn.symm
      subst hn'
      refine ⟨p, h, ?_, upd_same, r.ext T e⟩
      rw [List.getElem?_append_right (by rw [T.len]; omega), T.len, hz]
      rfl
theorem Tie.newT (T : Tie K js H M) {p : Addr} {vs : List V} (hp : H p = none) : Ext js H js (upd H p (.tup vs)) ∧ Tie K js (upd H p (.tup vs)) M := by
  have e : Ext js H js (upd H p (.tup vs)) := ⟨⟨[], by simp, by simp⟩, fun b u hb _ => by rw [upd_ne (ne_of_none hb hp)]; exact hb⟩
  refine ⟨e, T.len, T.nd, fun n u hn => ?_⟩
  obtain ⟨a, q, e1, e2, e3⟩ := T.at_ n u hn
  exact ⟨a, q, e1, by rw [upd_ne (ne_of_none e2 hp)]; exact e2, e3.ext T e⟩
theorem Tie.set (T : Tie K js H M) {n : Nat} {a : Addr} {o : MO} {h : HO} (hn : js[n]? = some a) (r : RepO K js H o h) :
    Ext js H js (upd H a h) ∧ Tie K js (upd H a h) (M.set n o) := by
  have ha : a ∈ js := List.mem_of_getElem? hn
  have e : Ext js H js (upd H a h) := ⟨⟨[], by simp, by simp⟩, fun b u hb hj => by
    have hne : b ≠ a := fun z => hj (by rw [z]; exact ha)
    rw [upd_ne hne]; exact hb⟩
  refine ⟨e, by simp [T.len], T.nd, fun m u hm => ?_⟩
  by_cases hmn : m = n
  · subst hmn
    have hl : m < M.length := by rw [← T.len]; exact (List.getElem?_eq_some_iff.mp hn).1
    rw [List.getElem?_set_self hl] at hm
    cases hm
    exact ⟨a, h, hn, upd_same, r.ext T e⟩
  · rw [List.getElem?_set_ne (Ne.symm hmn)] at hm
    obtain ⟨b, q, e1, e2, e3⟩ := T.at_ m u hm
    refine ⟨b, q, e1, ?_, e3.ext T e⟩
    rw [upd_ne]
    · exact e2
    · rintro rfl
      obtain ⟨i1, q1⟩ := List.getElem?_eq_some_iff.mp e1
      obtain ⟨i2, q2⟩ := List.getElem?_eq_some_iff.mp hn
      exact hmn ((List.getElem_inj T.nd).mp (q1.trans q2.symm))

/-! ### an object beside -/
/-- no tuple, no frozen thing -/
def PlainO : HO → Prop
  | .tup _ => False
  | .frz _ _ => False
  | _ => True
theorem Kp.side {p : Addr} {o o1 : HO} (h : H p = some o) (hp : PlainO o) : Kp K js H js (upd H p o1) := by
  have ne1 : ∀ a vs, Rd H a (.tup vs) → a ≠ p := by
    rintro a vs (e | ⟨ob, e⟩) rfl
    · rw [h] at e; cases e; exact hp
    · rw [h] at e; cases e; exact hp
  refine ⟨fun _ _ e => e, fun a vs e => ?_, fun a vs e => ?_⟩
  · rcases e with e | e
    · have ne := ne1 a vs e
      rcases e with e | ⟨ob, e⟩
      · exact .inl (.inl (by rw [upd_ne ne]; exact e))
      · exact .inl (.inr ⟨ob, by rw [upd_ne ne]; exact e⟩)
    · exact .inr e
  · rcases e with ⟨ob, e⟩ | e
    · have ne : a ≠ p := by rintro rfl; rw [h] at e; cases e; exact hp
      exact .inl ⟨ob, by rw [upd_ne ne]; exact e⟩
    · exact .inr e
/-- the heap with an object at p that no number has: from H, where nothing stood at p -/
structure Beside (K : PySem.W.Frag) (js : List Addr) (H : Hp) (p : Addr) (js' : List Addr) (H' : Hp) (M' : Mem) (o : HO) : Prop where
  ext : Ext js H js' H'
  tie : Tie K js' H' M'
  out : p ∉ js'
  at_ : H' p = some o
  plain : PlainO o
theorem Beside.start (T : Tie K js H M) {p : Addr} {o : HO} (hp : H p = none) (pl : PlainO o) : Beside K js H p js (upd H p o) M o := by
  have e : Ext js H js (upd H p o) := ⟨⟨[], by simp, by simp⟩, fun b u hb _ => by rw [upd_ne (ne_of_none hb hp)]; exact hb⟩
  refine ⟨e, ⟨T.len, T.nd, fun n u hn => ?_⟩, T.notin hp, upd_same, pl⟩
  obtain ⟨a, q, e1, e2, e3⟩ := T.at_ n u hn
  exact ⟨a, q, e1, by rw [upd_ne (ne_of_none e2 hp)]; exact e2, e3.ext T e⟩
theorem Beside.go {p : Addr} {o : HO} {M2 : Mem} (b : Beside K js H p js' H' M' o) (x : Ext js' H' js2 H2) (T2 : Tie K js2 H2 M2) : Beside K js H p js2 H2 M2 o := by
  refine ⟨b.ext.trans b.tie x, T2, fun hm => ?_, x.keep p o b.at_ b.out, b.plain⟩
  obtain ⟨m, rfl, n⟩ := x.pre
  rcases List.mem_append.mp hm with hm | hm
  · exact b.out hm
  · have := n p hm
    rw [b.at_] at this; cases this
theorem Beside.put {p : Addr} {o o1 : HO} (hp : H p = none) (b : Beside K js H p js' H' M' o) (pl : PlainO o1) : Beside K js H p js' (upd H' p o1) M' o1 := by
  have kp : Kp K js' H' js' (upd H' p o1) := Kp.side b.at_ b.plain
  refine ⟨⟨b.ext.pre, fun c u hc hj => ?_⟩, ⟨b.tie.len, b.tie.nd, fun n u hn => ?_⟩, b.out, upd_same, pl⟩
  · rw [upd_ne (ne_of_none hc hp)]
    exact b.ext.keep c u hc hj
  · obtain ⟨a, q, e1, e2, e3⟩ := b.tie.at_ n u hn
    have ne : a ≠ p := fun z => b.out (z ▸ List.mem_of_getElem? e1)
    exact ⟨a, q, e1, by rw [upd_ne ne]; exact e2, e3.kp kp⟩
/-- it is given a number -/
theorem Beside.join {p : Addr} {o : HO} {mo : MO} (hp : H p = none) (b : Beside K js H p js' H' M' o) (r : RepO K js' H' mo o) : Ext js H (js' ++ [p]) H' ∧ Tie K (js' ++ [p]) H' (M' ++ [mo]) := by
  have kp : Kp K js' H' (js' ++ [p]) H' := ⟨fun n a h => by rw [List.getElem?_append_left (List.getElem?_eq_some_iff.mp h).1]; exact h, fun _ _ h => h, fun _ _ h => h⟩
  obtain ⟨more, e, hm⟩ := b.ext.pre
  refine ⟨⟨⟨more ++ [p], by rw [e, List.append_assoc], fun c hc => ?_⟩, b.ext.keep⟩, by simp [b.tie.len], ?_, fun n u hn => ?_⟩
  · rcases List.mem_append.mp hc with hc | hc
    · exact hm c hc
    · rw [List.mem_singleton.mp hc]; exact hp
  · rw [List.nodup_append]
    refine ⟨b.tie.nd, by simp, fun a ha c hc => ?_⟩
    rw [List.mem_singleton] at hc
    rintro rfl
    exact b.out (hc ▸ ha)
  · by_cases hl : n < M'.length
    · rw [List.getElem?_append_left hl] at hn
      obtain ⟨a, q, e1, e2, e3⟩ := b.tie.at_ n u hn
      exact ⟨a, q, kp.ix _ _ e1, e2, e3.kp kp⟩
    · rw [List.getElem?_append_right (by omega)] at hn
      have hz : n - M'.length = 0 := by
        cases q : n - M'.length with
        | zero => rfl
        | succ k => rw [q] at hn; simp at hn
      rw [hz] at hn
      have hn' : u = mo := by simpa using hn.symm
      subst hn'
      refine ⟨p, o, ?_, b.at_, r.kp kp⟩
      rw [List.getElem?_append_right (by rw [b.tie.len]; omega), b.tie.len, hz]
      rfl

/-! ### data -/
mutual
theorem Py.dp (T : Tie K js H M) : ∀ {d : D} {p : PyData} {v : V}, Py M d p → Rep K js H d v → Dp K H v p
  | _, _, _, .non, r => by cases r; exact .non
  | _, _, _, .bl b, r => by cases r; exact .bl b
  | _, _, _, .int i, r => by cases r; exact .int i
  | _, _, _, .str x, r => by cases r; exact .str x
  | _, _, _, .tup h, r => by
    cases r with
    | tup hs hr => exact .tup hs (PyAll.dp T h hr)
  | _, _, _, .lst e h, r => by
    cases r with
    | ref hj =>
      obtain ⟨a, u, e1, e2, e3⟩ := T.at_ _ _ e
      rw [hj] at e1; cases e1
      cases e3 with
      | lst hr => exact .lst (.inl (.inl e2)) (PyAll.dp T h hr)
  | _, _, _, .frl h, r => by
    cases r with
    | frl hs hr => exact .lst hs.sq (PyAll.dp T h hr)
theorem PyAll.dp (T : Tie K js H M) : ∀ {d : List D} {p : List PyData} {v : List V}, PyAll M d p → Reps K js H d v → DpAll K H v p
  | _, _, _, .nil, r => by cases r; exact .nil
  | _, _, _, .cons h hs, r => by
    cases r with
    | cons a b => exact .cons (Py.dp T h a) (PyAll.dp T hs b)
end
end
end Cp

namespace Cp
open PySem L2

/-! ### a run as a reading -/
/-- r tells a value, and whatever stands for it then Q holds -/
def Go {α β : Type} (K : PySem.W.Frag) (p : List Addr → Hp → α → β → Prop) (js : List Addr) (H : Hp) (r : R (α × Mem)) (Q : β → Hp → Prop) : Prop :=
  ∃ a M', r = .ok (a, M') ∧ ∀ js' H' b, Ext js H js' H' → Tie K js' H' M' → p js' H' a b → Q b H'
structure RepS (K : PySem.W.Frag) (js : List Addr) (H : Hp) (s : Ev) (t : St) : Prop where
  len : s.length = t.length
  at_ : ∀ (i : Nat) (d : D), s[i]? = some (some d) → ∃ v, t[i]? = some (some v) ∧ Rep K js H d v
abbrev EqP {α : Type} : List Addr → Hp → α → α → Prop := fun _ _ a b => a = b
def tE (K : PySem.W.Frag) (r : Ev → Mem → RD) : TE := fun t H Q => ∃ js M s, Tie K js H M ∧ RepS K js H s t ∧ Go K (Rep K) js H (r s M) Q
def tT (K : PySem.W.Frag) (r : Ev → Mem → R (Bool × Mem)) : TT := fun t H Q => ∃ js M s, Tie K js H M ∧ RepS K js H s t ∧ Go K EqP js H (r s M) Q
def tA (K : PySem.W.Frag) (r : Ev → Mem → R (List D × Mem)) : TA := fun t H Q => ∃ js M s, Tie K js H M ∧ RepS K js H s t ∧ Go K (Reps K) js H (r s M) Q
def tO (K : PySem.W.Frag) (r : Ev → Mem → R (Option Int × Mem)) : TO := fun t H Q => ∃ js M s, Tie K js H M ∧ RepS K js H s t ∧ Go K EqP js H (r s M) Q
section
variable {K : PySem.W.Frag} {js js' : List Addr} {H H' : Hp} {M M' : Mem} {α β γ δ : Type} {p : List Addr → Hp → α → β → Prop} {q : List Addr → Hp → γ → δ → Prop}
theorem RepS.ext {s : Ev} {t : St} (T : Tie K js H M) (e : Ext js H js' H') (r : RepS K js H s t) : RepS K js' H' s t :=
  ⟨r.len, fun i d h => let ⟨v, h1, h2⟩ := r.at_ i d h; ⟨v, h1, h2.ext T e⟩⟩
theorem RepS.set {s : Ev} {t : St} {d : D} {v : V} (r : RepS K js H s t) (h : Rep K js H d v) (i : Nat) : RepS K js H (s.set i (some d)) (t.set i (some v)) := by
  refine ⟨by simp [r.len], fun j e hj => ?_⟩
  by_cases hij : i = j
  · subst hij
    have hl : i < s.length := by
      have := (List.getElem?_eq_some_iff.mp hj).1
      simpa using this
    rw [List.getElem?_set_self hl] at hj
    cases hj
    exact ⟨v, List.getElem?_set_self (by rw [← r.len]; exact hl), h⟩
  · rw [List.getElem?_set_ne hij] at hj ⊢
    exact r.at_ j e hj
theorem RepS.unset {s : Ev} {t : St} (r : RepS K js H s t) (i : Nat) : RepS K js H (s.set i none) (t.set i none) := by
  refine ⟨by simp [r.len], fun j e hj => ?_⟩
  by_cases hij : i = j
  · subst hij
    have hl : i < s.length := by
      have := (List.getElem?_eq_some_iff.mp hj).1
      simpa using this
    rw [List.getElem?_set_self hl] at hj
    cases hj
  · rw [List.getElem?_set_ne hij] at hj ⊢
    exact r.at_ j e hj
theorem RepS.wipe {s : Ev} {t : St} (r : RepS K js H s t) : ∀ vs : List Nat, RepS K js H (wipeE s vs) (L2.wipe t vs)
  | [] => r
  | v :: vs => by
    unfold wipeE L2.wipe
    exact (RepS.wipe r vs).unset v
theorem Go.bind {r : R (α × Mem)} {k : α × Mem → R (γ × Mem)} {Q : δ → Hp → Prop} (g : Go K q js H (r.bind k) Q) :
    Go K p js H r fun b H1 => ∃ js1 M1 a, Tie K js1 H1 M1 ∧ Ext js H js1 H1 ∧ p js1 H1 a b ∧ Go K q js1 H1 (k (a, M1)) Q := by
  obtain ⟨c, M2, e, h⟩ := g
  cases r with
  | bad => cases e
  | exn x N => cases e
  | ok w =>
    obtain ⟨a, M1⟩ := w
    exact ⟨a, M1, rfl, fun js1 H1 b x1 T1 r1 => ⟨js1, M1, a, T1, x1, r1, c, M2, e, fun js2 H2 d x2 T2 r2 => h js2 H2 d (x1.trans T1 x2) T2 r2⟩⟩
theorem Go.mono {r : R (α × Mem)} {Q Q' : β → Hp → Prop} (g : Go K p js H r Q) (h : ∀ b H1, Q b H1 → Q' b H1) : Go K p js H r Q' :=
  let ⟨a, M1, e, k⟩ := g
  ⟨a, M1, e, fun js1 H1 b x T r => h _ _ (k js1 H1 b x T r)⟩
theorem Go.ok {a : α} {M1 : Mem} {Q : β → Hp → Prop} (g : Go K p js H (.ok (a, M1)) Q) {js1 : List Addr} {H1 : Hp} {b : β} (x : Ext js H js1 H1) (T : Tie K js1 H1 M1) (r : p js1 H1 a b) : Q b H1 := by
  obtain ⟨c, M2, e, h⟩ := g
  cases e
  exact h js1 H1 b x T r
theorem Go.bad {Q : β → Hp → Prop} (g : Go K p js H (.bad : R (α × Mem)) Q) {P : Prop} : P := by
  obtain ⟨_, _, e, _⟩ := g
  cases e
theorem Go.when {c : Prop} [Decidable c] {r : R (α × Mem)} {Q : β → Hp → Prop} (g : Go K p js H (R.when c r) Q) : c ∧ Go K p js H r Q := by
  unfold R.when at g
  split at g
  · rename_i h; exact ⟨h, g⟩
  · exact g.bad
theorem Go.of {o : Option γ} {k : γ → R (α × Mem)} {Q : β → Hp → Prop} (g : Go K p js H (R.of o k) Q) : ∃ a, o = some a ∧ Go K p js H (k a) Q := by
  cases o with
  | none => exact g.bad
  | some a => exact ⟨a, rfl, g⟩
/-- what is newly laid -/
theorem Go.new {o : MO} {h : HO} {Q : VK} (T : Tie K js H M) (g : Go K (Rep K) js H (newM M o) Q) (r : RepO K js H o h) : ∀ p, H p = none → Q (.ref p) (upd H p h) := fun p hp => by
  obtain ⟨x, T'⟩ := T.new hp r
  refine Go.ok g x T' (.ref ?_)
  rw [List.getElem?_append_right (by rw [T.len]; omega), T.len, Nat.sub_self]
  rfl
theorem Go.newT {ds : List D} {vs : List V} {Q : VK} (T : Tie K js H M) (g : Go K (Rep K) js H (.ok (.tup ds, M)) Q) (r : Reps K js H ds vs) : ∀ p, H p = none → Q (.ref p) (upd H p (.tup vs)) := fun p hp => by
  obtain ⟨x, T'⟩ := T.newT (vs := vs) hp
  exact Go.ok g x T' (.tup (.inl (.inl upd_same)) (r.ext T x))
end

/-! ### weaker readings -/
theorem pe_weak {X : Cx} {e : Expr} {t t' : TE} (h : PE X e t) (w : ∀ s H Q, t' s H Q → t s H Q) : PE X e t' := ⟨fun pins s σ H Q I q => h.run pins s σ H Q I (w _ _ _ q)⟩
theorem pt_weak {X : Cx} {e : Expr} {t t' : TT} (h : PT X e t) (w : ∀ s H Q, t' s H Q → t s H Q) : PT X e t' := ⟨fun pins s σ H Q I q => h.run pins s σ H Q I (w _ _ _ q)⟩
theorem pw_weak {X : Cx} {e : Expr} {t t' : TT} (h : PW X e t) (w : ∀ s H Q, t' s H Q → t s H Q) : PW X e t' := ⟨fun wh pins s σ H Q I q => h.run wh pins s σ H Q I (w _ _ _ q)⟩
theorem pa_weak {X : Cx} {e : List Expr} {t t' : TA} (h : PA X e t) (w : ∀ s H Q, t' s H Q → t s H Q) : PA X e t' := ⟨fun pos pins s σ H Q I q => h.run pos pins s σ H Q I (w _ _ _ q)⟩
theorem po_weak {X : Cx} {e : Option Expr} {t t' : TO} (h : PO X e t) (w : ∀ s H Q, t' s H Q → t s H Q) : PO X e t' := ⟨fun pins s σ H Q I q => h.run pins s σ H Q I (w _ _ _ q)⟩
theorem ps_weak {X : Cx} {e : Stmt} {t t' : TS} (h : PS X e t) (w : ∀ D s H, t' D s H → t D s H) : PS X e t' := ⟨fun pins s σ H D I q => h.run pins s σ H D I (w _ _ _ q)⟩
theorem pss_weak {X : Cx} {e : List Stmt} {t t' : TS} (h : PSs X e t) (w : ∀ D s H, t' D s H → t D s H) : PSs X e t' := ⟨fun pins s σ H D I q => h.run pins s σ H D I (w _ _ _ q)⟩
theorem pe_or {X : Cx} {e : Expr} {t u : TE} (h : PE X e t) (k : PE X e u) : PE X e (fun s H Q => t s H Q ∨ u s H Q) :=
  ⟨fun pins s σ H Q I q => q.elim (h.run pins s σ H Q I) (k.run pins s σ H Q I)⟩

/-! ### bools among ints -/
theorem add_bi (k : Bool) (j : Int) (u : Tok) : Gives (Builtin.«int.__add__» ⟨[.bool k, .int j u], []⟩) (.int ((if k = true then (1 : Int) else 0) + j)) :=
  .of_wp fun M A E sh Q q => by obtain ⟨h1, h2, h3, h4, h5⟩ := sh; wp_walk; exact ⟨_, rfl, q⟩
theorem sub_bi (k : Bool) (j : Int) (u : Tok) : Gives (Builtin.«int.__sub__» ⟨[.bool k, .int j u], []⟩) (.int ((if k = true then (1 : Int) else 0) - j)) :=
  .of_wp fun M A E sh Q q => by obtain ⟨h1, h2, h3, h4, h5⟩ := sh; wp_walk; exact ⟨_, rfl, q⟩
theorem no_sub_ib : isSubtype (.type "int") (.type "bool") = pure false := by rw [isSubtype_type]; kernel_rfl
section
variable {prog : Program} {w : World} {A : Around} {E : Value → Shared → Prop} {s : Shared} {k : Bool} {j : Int} {u : Tok}
theorem bool_add_int {Q : Value → Shared → Prop} (h : Q (.int ((if k = true then (1 : Int) else 0) + j) s.toks) { s with toks := s.toks + 1 }) : wpAny (model prog w) A (binaryOp .Add (.bool k) (.int j u)) Q E s :=
  binaryOp_left_gives (op := .Add) (T := "bool") (U := "int") (by decide) (typeIs_bool s k) (fun s' => typeIs_int s' j u) F.fills_bool_add F.fills_int_add no_sub_ib F.slot_bool_add F.slot_int_radd F.entry_int_add (F.args_int_add_2 _ _) (add_bi k j u) trivial h
theorem bool_sub_int {Q : Value → Shared → Prop} (h : Q (.int ((if k = true then (1 : Int) else 0) - j) s.toks) { s with toks := s.toks + 1 }) : wpAny (model prog w) A (binaryOp .Sub (.bool k) (.int j u)) Q E s :=
  binaryOp_left_gives (op := .Sub) (T := "bool") (U := "int") (by decide) (typeIs_bool s k) (fun s' => typeIs_int s' j u) F.fills_bool_sub F.fills_int_sub no_sub_ib F.slot_bool_sub F.slot_int_rsub F.entry_int_sub (F.args_int_sub_2 _ _) (sub_bi k j u) trivial h
end
/-! ### by values -/
/-- two values in -/
def rD2 (K : PySem.W.Frag) (f : Mem → D → D → RD) : R2 := fun x y H Q => ∃ js M d e, Tie K js H M ∧ Rep K js H d x ∧ Rep K js H e y ∧ Go K (Rep K) js H (f M d e) Q
/-- from a run of two parts to the parts -/
theorem two_parts {K : PySem.W.Frag} {ra rb : Ev → Mem → RD} {f : Mem → D → D → RD} {t : St} {H : Hp} {Q : VK}
    (h : tE K (fun s M => (ra s M).bind fun p => (rb s p.2).bind fun q => f q.2 p.1 q.1) t H Q) : tOp (rD2 K f) (tE K ra) (tE K rb) t H Q := by
  obtain ⟨js, M, s, T, S, g⟩ := h
  refine ⟨js, M, s, T, S, g.bind.mono ?_⟩
  rintro x H1 ⟨js1, M1, d, T1, x1, r1, g1⟩
  refine ⟨js1, M1, s, T1, S.ext T x1, g1.bind.mono ?_⟩
  rintro y H2 ⟨js2, M2, e, T2, x2, r2, g2⟩
  exact ⟨js2, M2, d, e, T2, r1.ext T1 x2, r2, g2⟩
theorem one_part {K : PySem.W.Frag} {ra : Ev → Mem → RD} {k : D → Mem → RD} {t : St} {H : Hp} {Q : VK}
    (h : tE K (fun s M => (ra s M).bind fun p => k p.1 p.2) t H Q) : tE K ra t H fun x H1 => ∃ js M d, Tie K js H1 M ∧ Rep K js H1 d x ∧ Go K (Rep K) js H1 (k d M) Q := by
  obtain ⟨js, M, s, T, S, g⟩ := h
  refine ⟨js, M, s, T, S, g.bind.mono ?_⟩
  rintro x H1 ⟨js1, M1, d, T1, x1, r1, g1⟩
  exact ⟨js1, M1, d, T1, r1, g1⟩
def O2.py : O2 → Operator
  | .add => .Add | .sub => .Sub | .mul => .Mult | .fdiv => .FloorDiv | .mod => .Mod | .pow => .Pow
def Cm.py : Cm → CmpOp
  | .eq => .Eq | .ne => .NotEq | .lt => .Lt | .le => .LtE | .gt => .Gt | .ge => .GtE | .is => .Is | .isn => .IsNot | .mem => .In | .nmem => .NotIn

theorem Rep.refH {K : PySem.W.Frag} {js : List Addr} {H : Hp} {M : Mem} {n : Nat} {x : V} {o : MO} (T : Tie K js H M) (r : Rep K js H (.ref n) x) (h : M[n]? = some o) : ∃ a u, x = .ref a ∧ js[n]? = some a ∧ H a = some u ∧ RepO K js H o u := by
  cases r with
  | ref hj =>
    obtain ⟨a, u, e1, e2, e3⟩ := T.at_ n o h
    rw [hj] at e1; cases e1
    exact ⟨_, u, rfl, hj, e2, e3⟩
section
variable {X : Cx}
theorem op_bin (o : O2) : OpR X (binaryOp o.py) (rD2 X.K fun M d e => binD M o d e) := by
  intro pins s σ H x y v u Q I rx ry h
  obtain ⟨js, M, d, e, T, r1, r2, g⟩ := h
  have g : Go X.K (Rep X.K) js H (binD M o d e) Q := g
  unfold binD at g
  split at g
  · cases r1; cases r2
    exact op_add pins s σ H _ _ v u Q I rx ry ⟨_, _, rfl, rfl, g.ok .refl T (.int _)⟩
  · cases r1; cases r2
    obtain ⟨c, g⟩ := g.when
    exact op_add_str pins s σ H _ _ v u Q I rx ry ⟨_, _, rfl, rfl, c, g.ok .refl T (.str _)⟩
  · rename_i xs ys
    obtain ⟨c, g⟩ := g.when
    cases r1 with
    | @tup _ a vs h1 k1 =>
      cases r2 with
      | @tup _ b ws h2 k2 =>
        refine op_catA pins s σ H _ _ v u Q I rx ry ⟨a, b, vs, ws, rfl, rfl, h1, h2, by rw [← k1.length, ← k2.length]; exact c, fun e => ?_, fun _ e => ?_, fun _ _ => ?_⟩
        · subst e
          cases k1
          exact g.ok .refl T (.tup h2 k2)
        · subst e
          cases k2
          refine g.ok .refl T ?_
          rw [List.append_nil]
          exact .tup h1 k1
        · exact g.newT T (k1.append k2)
  · split at g
    · rename_i a b _ _ xs ys e1 e2
      obtain ⟨c, g⟩ := g.when
      obtain ⟨p, u1, rfl, j1, h1, o1⟩ := r1.refH T e1
      obtain ⟨q, u2, rfl, j2, h2, o2⟩ := r2.refH T e2
      cases o1 with
      | lst k1 =>
        cases o2 with
        | lst k2 => exact op_cat pins s σ H _ _ v u Q I rx ry ⟨p, q, _, _, rfl, rfl, h1, h2, by rw [← k1.length, ← k2.length]; exact c, g.new T (.lst (k1.append k2))⟩
    · exact g.bad
  · cases r1; cases r2
    exact op_sub pins s σ H _ _ v u Q I rx ry ⟨_, _, rfl, rfl, g.ok .refl T (.int _)⟩
  · cases r1; cases r2
    obtain ⟨c, g⟩ := g.when
    unfold mulOk at c
    have c' := of_decide_eq_true c
    exact op_mulW pins s σ H _ _ v u Q I rx ry ⟨_, _, rfl, rfl, c', g.ok .refl T (.int _)⟩
  · cases r1; cases r2
    obtain ⟨c, g⟩ := g.when
    unfold divOk at c
    rw [Bool.and_eq_true] at c
    exact op_fdivW pins s σ H _ _ v u Q I rx ry ⟨_, _, rfl, rfl, ⟨of_decide_eq_true c.1, of_decide_eq_true c.2⟩, g.ok .refl T (.int _)⟩
  · cases r1; cases r2
    obtain ⟨c, g⟩ := g.when
    exact op_mod pins s σ H _ _ v u Q I rx ry ⟨_, _, rfl, rfl, c, g.ok .refl T (.int _)⟩
  · cases r1; cases r2
    obtain ⟨c, g⟩ := g.when
    unfold powOk at c
    rw [Bool.and_eq_true, Bool.and_eq_true] at c
    exact op_pow pins s σ H _ _ v u Q I rx ry ⟨_, _, rfl, rfl, ⟨of_decide_eq_true c.1.1, of_decide_eq_true c.1.2, of_decide_eq_true c.2⟩, g.ok .refl T (.int _)⟩
  · cases r1; cases r2
    cases (show v = Value.bool _ from rx)
    obtain ⟨t, rfl⟩ := ry
    exact bool_add_int ⟨.int _, H, I.tok _, ⟨_, rfl⟩, g.ok .refl T (.int _)⟩
  · cases r1; cases r2
    cases (show v = Value.bool _ from rx)
    obtain ⟨t, rfl⟩ := ry
    exact bool_sub_int ⟨.int _, H, I.tok _, ⟨_, rfl⟩, g.ok .refl T (.int _)⟩
  · cases r1; cases r2
    exact op_add_ib pins s σ H _ _ v u Q I rx ry ⟨_, _, rfl, rfl, g.ok .refl T (.int _)⟩
  · exact g.bad

/-! ### comparisons -/
theorem flat_rep {K : PySem.W.Frag} {js : List Addr} {H : Hp} {d : D} {v : V} (r : Rep K js H d v) (f : flatD d = true) : flatV v = true := by
  cases r <;> first | rfl | exact absurd f Bool.false_ne_true
theorem eqF_rep {K : PySem.W.Frag} {js : List Addr} {H : Hp} {d e : D} {v w : V} (r : Rep K js H d v) (q : Rep K js H e w) (f : flatD d = true) (g : flatD e = true) : eqV v w = eqF d e := by
  cases r <;> cases q <;> first | rfl | exact absurd f Bool.false_ne_true | exact absurd g Bool.false_ne_true
theorem flats_rep {K : PySem.W.Frag} {js : List Addr} {H : Hp} : ∀ {xs : List D} {vs : List V}, Reps K js H xs vs → xs.all flatD = true → vs.all flatV = true
  | _, _, .nil, _ => rfl
  | _, _, .cons h r, f => by
    rw [List.all_cons, Bool.and_eq_true] at f ⊢
    exact ⟨flat_rep h f.1, flats_rep r f.2⟩
theorem inF_rep {K : PySem.W.Frag} {js : List Addr} {H : Hp} {x : D} {v : V} (rx : Rep K js H x v) (fx : flatD x = true) : ∀ {xs : List D} {vs : List V}, Reps K js H xs vs → xs.all flatD = true → inV v vs = inF x xs
  | _, _, .nil, _ => rfl
  | _, _, .cons h r, f => by
    rw [List.all_cons, Bool.and_eq_true] at f
    have ih := inF_rep rx fx r f.2
    unfold inV inF at ih ⊢
    rw [List.any_cons, List.any_cons, eqF_rep h rx f.1 fx, ih]
theorem key_rep {K : PySem.W.Frag} {js : List Addr} {H : Hp} {d : D} {v : V} {k : Key} (r : Rep K js H d v) (e : keyD d = some k) : v = kV k := by
  cases r <;> first | (cases e; rfl) | (cases e)
theorem look_rep {K : PySem.W.Frag} {js : List Addr} {H : Hp} {k : Key} : ∀ {kvs : List (Key × D)} {ws : List (Key × V)}, kvs.map (·.1) = ws.map (·.1) → Reps K js H (kvs.map (·.2)) (ws.map (·.2)) →
    (lookD kvs k = none ∧ valV ws k = none) ∨ ∃ d v, lookD kvs k = some d ∧ valV ws k = some v ∧ Rep K js H d v
  | [], [], _, _ => .inl ⟨rfl, rfl⟩
  | [], _ :: _, e, _ => by cases e
  | _ :: _, [], e, _ => by cases e
  | (a, d) :: kvs, (b, v) :: ws, e, r => by
    rw [List.map_cons, List.map_cons] at e r
    injection e with e1 e2
    have e1' : a = b := e1
    subst e1'
    cases r with
    | cons h r =>
      by_cases hk : a = k
      · subst hk
        refine .inr ⟨d, v, ?_, valV_pos rfl, h⟩
        simp [lookD, List.find?_cons]
      · rcases look_rep (k := k) e2 r with ⟨h1, h2⟩ | ⟨d', v', h1, h2, h3⟩
        · refine .inl ⟨?_, by rw [valV_neg hk]; exact h2⟩
          simpa [lookD, List.find?_cons, hk] using h1
        · refine .inr ⟨d', v', ?_, by rw [valV_neg hk]; exact h2, h3⟩
          simpa [lookD, List.find?_cons, hk] using h1
end
end Cp

namespace Cp
open PySem L2 PyProof.Rows HT

/-! ### t[::-1] of a tuple -/
section
variable {prog : Program} {w : World} {A : Around} {E : Value → Shared → Prop} {s : Shared}
theorem back_adjust (n : Nat) : Builtin.Slice.sliceAdjust none none (-1) (n : Int) = ((n : Int) - 1, -1) := by
  unfold Builtin.Slice.sliceAdjust
  simp
theorem back_places (n : Nat) : Builtin.Slice.slicePlaces ((n : Int) - 1) (-1) (-1) = n := by
  unfold Builtin.Slice.slicePlaces
  have h1 : ¬ ((-1 : Int) > 0) := by omega
  rw [if_neg h1]
  by_cases h : (n : Int) - 1 > -1
  · rw [if_pos h]
    simp only [Int.neg_neg, Int.ediv_one]
    omega
  · rw [if_neg h]
    omega
theorem fm_map {α β : Type} {f : α → Option β} {g : α → β} : ∀ {l : List α}, (∀ x ∈ l, f x = some (g x)) → l.filterMap f = l.map g
  | [], _ => rfl
  | x :: l, h => by rw [List.filterMap_cons, h x List.mem_cons_self, List.map_cons, fm_map fun y hy => h y (List.mem_cons_of_mem _ hy)]
theorem back_pick (xs : Array Value) : ((List.range xs.size).filterMap fun (k : Nat) => xs[(((xs.size : Int) - 1) + (k : Int) * (-1)).toNat]?) = xs.toList.reverse := by
  apply List.ext_getElem?
  intro i
  have e : ∀ k ∈ List.range xs.size, xs[(((xs.size : Int) - 1) + (k : Int) * (-1)).toNat]? = some (xs.toList.reverse.getD k default) := by
    intro k hk
    rw [List.mem_range] at hk
    have h1 : (((xs.size : Int) - 1) + (k : Int) * (-1)).toNat = xs.size - 1 - k := by omega
    rw [h1, ← Array.getElem?_toList, List.getD_eq_getElem?_getD, List.getElem?_reverse (by simpa using hk), Array.length_toList]
    rw [List.getElem?_eq_getElem (by rw [Array.length_toList]; omega)]
    rfl
  have e2 : ((List.range xs.size).filterMap fun (k : Nat) => xs[(((xs.size : Int) - 1) + (k : Int) * (-1)).toNat]?) = (List.range xs.size).map fun k => xs.toList.reverse.getD k default := by
    exact fm_map e
  rw [e2]
  by_cases hi : i < xs.size
  · rw [List.getElem?_map, List.getElem?_range hi, List.getElem?_eq_getElem (by simpa using hi)]
    simp [List.getD_eq_getElem?_getD, hi]
  · rw [List.getElem?_eq_none (by simp; omega), List.getElem?_eq_none (by simp; omega)]
theorem back_applied {sl : Addr} {vs : Value} {n : Nat} {Q : Int × Int × Nat → Shared → Prop} (hs : s.heap.IsSliceOf sl .none .none vs) (ps : IsPart vs (some (-1)))
    (h : Q ((n : Int) - 1, -1, n) s) : wpAny (model prog w) A (Builtin.Slice.sliceApplied (.ref sl) (pure (n : Int))) Q E s := by
  obtain ⟨so, sh, sc, sd⟩ := id hs
  unfold Builtin.Slice.sliceApplied Builtin.Slice.sliceFields
  refine wpAny_bind (wpAny_bind (wpAny_field sh sd (x := .none) rfl (wpAny_bind (wpAny_field sh sd (x := .none) rfl (wpAny_bind (wpAny_field sh sd (x := vs) rfl (wpAny_pure ?_)))))))
  refine wpAny_bind (slicePart_ ps ?_)
  show wpAny _ _ (if ((-1 : Int) == 0) = true then _ else _) _ _ s
  rw [if_neg (by decide)]
  refine wpAny_bind (slicePart_none (wpAny_bind (slicePart_none (wpAny_bind (wpAny_pure ?_)))))
  show wpAny _ _ (match Builtin.Slice.sliceAdjust none none (-1) (n : Int) with | (lo, hi) => pure (lo, (-1 : Int), Builtin.Slice.slicePlaces lo hi (-1))) _ _ s
  rw [back_adjust n]
  show wpAny _ _ (pure ((n : Int) - 1, (-1 : Int), Builtin.Slice.slicePlaces ((n : Int) - 1) (-1) (-1))) _ _ s
  rw [back_places]
  exact wpAny_pure h
theorem getItem_tuple_back {t sl : Addr} {items : Array Value} {vs : Value} {Q : Value → Shared → Prop} (ht : IsTup s.heap t items) (hs : s.heap.IsSliceOf sl .none .none vs) (ps : IsPart vs (some (-1)))
    (h : Q (.ref s.heap.objs.size) { s with heap := s.heap.push { cls := .type "tuple", data := .seq items.toList.reverse.toArray } })
    (hsz : items.size ≤ sizeLine) : wpAny (model prog w) A (getItem (.ref t) (.ref sl)) Q E s := by
  have fit : sizeOk (.seq items.toList.reverse.toArray) := by
    show items.toList.reverse.toArray.size ≤ sizeLine
    simpa using hsz
  obtain ⟨so, sh, sc, sd⟩ := id hs
  have tS : s.TypeIs (.ref sl) "slice" := ⟨so, sh, sc⟩
  unfold getItem
  try with_reducible refine wpAny_holding ?_
  first | refine wpAny_bind (wpAny_pure ?_) | skip
  refine wpAny_bind (wpAny_sequenceKey (ht.typeIs) (by decide) ?_)
  refine wpAny_bind (wpAny_callSpecial?_slot (name := Str.ofString "__getitem__") ht.typeIs slot_tuple_getitem (wpAny_call_entry slot_tuple_getitem ht.typeIs entry_tuple_getitem ?_ (args_tuple_getitem _ _)))
  show wpAny _ _ (Builtin.Tuple.tupleItemsOf (.ref t) >>= _) _ _ s
  refine wpAny_bind (tupleItemsOf_ ht (wpAny_bind (wpAny_typeOf tS ?_)))
  rw [if_pos (by decide)]
  refine wpAny_bind (back_applied hs ps ?_)
  show wpAny _ _ (if ((((items.size : Int) - 1)) == 0 && (-1 : Int) == 1 && items.size == items.size) = true then _ else _) _ _ s
  rw [if_neg (by simp), back_pick]
  first
    | exact wpAny_bind (m := Builtin.Tuple.tupleExact _) (wpAny_newObj_type (wpAny_pure ⟨_, rfl, wpAny_pure h⟩) fit)
    | exact wpAny_bind (m := Builtin.Tuple.tupleExact _) (wpAny_newObj_type (wpAny_bind (wpAny_pure (wpAny_pure ⟨_, rfl, wpAny_pure h⟩))) fit)
    | exact wpAny_bind (wpAny_bind (m := Builtin.Tuple.tupleExact _) (wpAny_newObj_type (wpAny_pure (wpAny_pure ⟨_, rfl, wpAny_pure h⟩)) fit))
    | exact wpAny_bind (wpAny_bind (m := Builtin.Tuple.tupleExact _) (wpAny_newObj_type (wpAny_pure ⟨_, rfl, wpAny_pure h⟩) fit))
end
section
variable {X : Cx} {pos : Pos}
/-- x[::-1], a tuple or a list -/
def tRev (K : PySem.W.Frag) (te : TE) : TE := fun σ H Q => te σ H fun x H1 => (∃ a xs, x = .ref a ∧ SqL K H1 a xs ∧ ∀ p, H1 p = none → Q (.ref p) (upd H1 p (.lst xs.reverse))) ∨
  ∃ a xs, x = .ref a ∧ SqT K H1 a xs ∧ ∀ p, H1 p = none → Q (.ref p) (upd H1 p (.tup xs.reverse))
theorem pe_rev {e : Expr} {te : TE} {k : Nat} {p1 p2 p3 pos : Pos} (he : PE X e te) : PE X (.Subscript e (.Slice none none (some (.UnaryOp .USub (.Constant (.int 1) k p1) p2)) p3) pos) (tRev X.K te) := by
  refine ⟨fun pins s σ H Q I h => ?_⟩
  refine Subscript_ (thn (he.run pins s σ H _ I h) fun v s1 ⟨x, H1, I1, r1, q⟩ => ?_)
  have minus : PO X (some (.UnaryOp .USub (.Constant (.int 1) k p1) p2)) (tPart (tUn (rU fun i => .int (-i)) (tC (.int 1)))) := po_some (pe_un un_neg pe_int)
  refine wpAny_Slice (thn (po_none.run pins s1 σ H1 (fun o H2 => o = none ∧ H2 = H1) I1 ⟨rfl, rfl⟩) fun vl s2 ⟨l, H2, I2, pl, el, e2⟩ => ?_)
  subst el e2
  refine thn (po_none.run pins s2 σ H2 (fun o H3 => o = none ∧ H3 = H2) I2 ⟨rfl, rfl⟩) fun vu s3 ⟨u, H3, I3, pu, eu, e3⟩ => ?_
  subst eu e3
  refine thn (minus.run pins s3 σ H3 (fun o H4 => o = some (-1) ∧ H4 = H3) I3 ⟨1, rfl, -1, rfl, rfl, rfl⟩) fun vs s4 ⟨o, H4, I4, ps, eo, e4⟩ => ?_
  subst eo e4
  have I5 : Inv X pins σ H4 { s4 with heap := s4.heap.push { cls := .type "slice", data := .fields #[vl, vu, vs] } } := I4.kept (t' := s4.toks) fun b ob z => Heap.get?_push_of_some _ z
  show wpAny (model X.prog X.w) X.A (subscriptTail e (.Slice none none (some (.UnaryOp .USub (.Constant (.int 1) k p1) p2)) p3) v (.ref s4.heap.objs.size)) (EP X pins σ Q) X.xe { s4 with heap := s4.heap.push { cls := .type "slice", data := .fields #[vl, vu, vs] } }
  rcases q with ⟨a, xs, ex, hx, q⟩ | ⟨a, xs, ex, hx, q⟩
  · subst ex
    cases r1
    obtain ⟨its, r, ht, hz⟩ := I5.list hx
    have hlen := r.length
    refine tail_any (ops := [.ref a, .ref s4.heap.objs.size]) ht.isList.typeIs (PySem.slot_list_getitem.lookup) ?_ (by with_unfolding_all rfl)
    refine wpAny_getItem_list_slice ht.isList (Heap.IsSliceOf.new _ vl vu vs) pl pu ps (by decide) ?_ (by rw [List.size_toArray]; omega)
    rw [PySem.W.krv_pick]
    refine ⟨.ref _, _, I5.laid (t' := s4.toks) (o := .lst xs.reverse) (fun b ob z => Heap.get?_push_of_some _ z) (Nat.le_refl _) ?_, rfl, q _ (I5.hok.fresh (Nat.le_refl _))⟩
    exact ⟨by rw [List.length_reverse]; exact hz, _, 0, r.reverse, Heap.get?_push_size _ rfl⟩
  · subst ex
    cases r1
    cases pl
    cases pu
    obtain ⟨its, r, ht, hz⟩ := I5.tuple hx
    have hlen := r.length
    refine tail_any (ops := [.ref a, .ref s4.heap.objs.size]) ht.typeIs slot_tuple_getitem.lookup ?_ (by with_unfolding_all rfl)
    refine getItem_tuple_back ht (Heap.IsSliceOf.new _ .none .none vs) ps ?_ (by rw [List.size_toArray]; omega)
    refine ⟨.ref _, _, I5.laid (t' := s4.toks) (o := .tup xs.reverse) (fun b ob z => Heap.get?_push_of_some _ z) (Nat.le_refl _) ?_, rfl, q _ (I5.hok.fresh (Nat.le_refl _))⟩
    exact ⟨by rw [List.length_reverse]; exact hz, _, r.reverse, ⟨_, Heap.get?_push_size _ rfl, rfl, _, rfl⟩⟩

/-! ### comparisons, subscripts by values -/
def rC2 (K : PySem.W.Frag) (c : Cm) : R2 := fun x y H Q => ∃ js M d e k, Tie K js H M ∧ Rep K js H d x ∧ Rep K js H e y ∧ cmpD M c d e = some k ∧ Q (.bl k) H
def isNonD : D → Bool
  | .non => true
  | _ => false
theorem isN_rep {K : PySem.W.Frag} {js : List Addr} {H : Hp} {d : D} {v : V} (r : Rep K js H d v) : decide (v = V.non) = isNonD d := by
  cases r <;> rfl
theorem op_in (hu : X.A.units + 65 < cLine) : OpR X (compareOp .In) (fun x y H Q => ∃ js M d e k, Tie X.K js H M ∧ Rep X.K js H d x ∧ Rep X.K js H e y ∧ inD M d e = some k ∧ Q (.bl k) H) := by
  intro pins s σ H x y v u Q I rx ry h
  obtain ⟨js, M, d, e, k, T, r1, r2, c, q⟩ := h
  unfold inD at c
  split at c
  · split at c
    · cases r1; cases r2; cases c
      exact op_in_str pins s σ H _ _ v u Q I rx ry ⟨_, _, rfl, rfl, q⟩
    · cases c
  · rename_i xs
    split at c
    · rename_i f
      rw [Bool.and_eq_true] at f
      cases c
      cases r2 with
      | @tup _ b ws h2 k2 =>
        refine op_in_seq pins s σ H _ _ v u Q I rx ry ⟨b, ws, rfl, .inr h2, flat_rep r1 f.1, flats_rep k2 f.2, ?_⟩
        rw [inF_rep r1 f.1 k2 f.2]
        exact q
    · obtain ⟨dd, ed, c⟩ := Option.bind_eq_some_iff.mp c
      obtain ⟨ee, eee, c⟩ := Option.bind_eq_some_iff.mp c
      split at c
      · rename_i ds
        split at c
        · rename_i f
          rw [Bool.and_eq_true] at f
          cases c
          obtain ⟨as, k1⟩ := Dp.reads I dd x v ((of_tree ed).dp T r1) rx
          obtain ⟨bs, k2⟩ := Dp.reads I (.tuple ds) y u ((of_tree eee).dp T r2) ry
          exact SeqAt.in_tuple_reads k2 k1 (SeqAt.canLay_of_shaped f.2) (SeqAt.canLay_of_shaped f.1) (room_in_shaped f.1 hu) ⟨.bl _, H, I, rfl, q⟩
        · cases c
      · cases c
  · split at c
    · rename_i a _ kvs e1
      obtain ⟨p, u1, rfl, j1, h1, o1⟩ := r2.refH T e1
      cases o1 with
      | dct hk hr =>
        obtain ⟨key, ek, ec⟩ := Option.map_eq_some_iff.mp c
        cases (show u = Value.ref p from ry)
        rw [key_rep r1 ek] at rx
        refine d_in (by omega) I (.k h1) rx fun s' I' => ⟨.bl _, H, I', rfl, ?_⟩
        rcases look_rep (k := key) hk hr with ⟨z1, z2⟩ | ⟨_, _, z1, z2, _⟩ <;> (rw [z2]; rw [z1] at ec; subst ec; exact q)
    · rename_i a _ xs e1
      obtain ⟨p, u1, rfl, j1, h1, o1⟩ := r2.refH T e1
      cases o1 with
      | lst k2 =>
        split at c
        · rename_i f
          rw [Bool.and_eq_true] at f
          cases c
          refine op_in_seq pins s σ H _ _ v u Q I rx ry ⟨p, _, rfl, .inl (.inl (.inl h1)), flat_rep r1 f.1, flats_rep k2 f.2, ?_⟩
          rw [inF_rep r1 f.1 k2 f.2]
          exact q
        · obtain ⟨dd, ed, c⟩ := Option.bind_eq_some_iff.mp c
          obtain ⟨ee, eee, c⟩ := Option.bind_eq_some_iff.mp c
          split at c
          · rename_i ds
            split at c
            · rename_i f
              rw [Bool.and_eq_true] at f
              cases c
              exact op_inD hu pins s σ H _ _ v u Q I rx ry ⟨dd, ds, (of_tree ed).dp T r1, (of_tree eee).dp T r2, f.1, f.2, q⟩
            · cases c
          · cases c
    · cases c
  · cases c
theorem op_nin (hu : X.A.units + 65 < cLine) : OpR X (compareOp .NotIn) (fun x y H Q => ∃ js M d e k, Tie X.K js H M ∧ Rep X.K js H d x ∧ Rep X.K js H e y ∧ inD M d e = some k ∧ Q (.bl (!k)) H) := by
  intro pins s σ H x y v u Q I rx ry h
  obtain ⟨js, M, d, e, k, T, r1, r2, c, q⟩ := h
  unfold inD at c
  split at c
  · split at c
    · cases r1; cases r2; cases c
      exact op_notin_str pins s σ H _ _ v u Q I rx ry ⟨_, _, rfl, rfl, q⟩
    · cases c
  · rename_i xs
    split at c
    · rename_i f
      rw [Bool.and_eq_true] at f
      cases c
      cases r2 with
      | @tup _ b ws h2 k2 =>
        refine op_notIn_seq pins s σ H _ _ v u Q I rx ry ⟨b, ws, rfl, .inr h2, flat_rep r1 f.1, flats_rep k2 f.2, ?_⟩
        rw [inF_rep r1 f.1 k2 f.2]
        exact q
    · obtain ⟨dd, ed, c⟩ := Option.bind_eq_some_iff.mp c
      obtain ⟨ee, eee, c⟩ := Option.bind_eq_some_iff.mp c
      split at c
      · rename_i ds
        split at c
        · rename_i f
          rw [Bool.and_eq_true] at f
          cases c
          obtain ⟨as, k1⟩ := Dp.reads I dd x v ((of_tree ed).dp T r1) rx
          obtain ⟨bs, k2⟩ := Dp.reads I (.tuple ds) y u ((of_tree eee).dp T r2) ry
          exact SeqAt.notIn_tuple_reads k2 k1 (SeqAt.canLay_of_shaped f.2) (SeqAt.canLay_of_shaped f.1) (room_in_shaped f.1 hu) ⟨.bl _, H, I, rfl, q⟩
        · cases c
      · cases c
  · split at c
    · rename_i a _ kvs e1
      obtain ⟨p, u1, rfl, j1, h1, o1⟩ := r2.refH T e1
      cases o1 with
      | dct hk hr =>
        obtain ⟨key, ek, ec⟩ := Option.map_eq_some_iff.mp c
        cases (show u = Value.ref p from ry)
        rw [key_rep r1 ek] at rx
        refine d_notIn (by omega) I (.k h1) rx fun s' I' => ⟨.bl _, H, I', rfl, ?_⟩
        rcases look_rep (k := key) hk hr with ⟨z1, z2⟩ | ⟨_, _, z1, z2, _⟩ <;> (rw [z2]; rw [z1] at ec; subst ec; exact q)
    · rename_i a _ xs e1
      obtain ⟨p, u1, rfl, j1, h1, o1⟩ := r2.refH T e1
      cases o1 with
      | lst k2 =>
        split at c
        · rename_i f
          rw [Bool.and_eq_true] at f
          cases c
          refine op_notIn_seq pins s σ H _ _ v u Q I rx ry ⟨p, _, rfl, .inl (.inl (.inl h1)), flat_rep r1 f.1, flats_rep k2 f.2, ?_⟩
          rw [inF_rep r1 f.1 k2 f.2]
          exact q
        · obtain ⟨dd, ed, c⟩ := Option.bind_eq_some_iff.mp c
          obtain ⟨ee, eee, c⟩ := Option.bind_eq_some_iff.mp c
          split at c
          · rename_i ds
            split at c
            · rename_i f
              rw [Bool.and_eq_true] at f
              cases c
              exact op_notInD hu pins s σ H _ _ v u Q I rx ry ⟨dd, ds, (of_tree ed).dp T r1, (of_tree eee).dp T r2, f.1, f.2, q⟩
            · cases c
          · cases c
    · cases c
  · cases c
theorem op_cmp (hu : X.A.units + 65 < cLine) (c : Cm) : OpR X (compareOp c.py) (rC2 X.K c) := by
  intro pins s σ H x y v u Q I rx ry h
  obtain ⟨js, M, d, e, k, T, r1, r2, h, q⟩ := h
  cases c with
  | eq =>
    by_cases hs : ∃ x y, d = .str x ∧ e = .str y
    · obtain ⟨x, y, rfl, rfl⟩ := hs
      cases h; cases r1; cases r2
      exact op_eq pins s σ H _ _ v u Q I rx ry ⟨rfl, by rw [dec_str]; exact q⟩
    have h : eqD M d e = some k := by cases d <;> cases e <;> first | exact h | exact absurd ⟨_, _, rfl, rfl⟩ hs
    obtain ⟨dp, ep, h1, h2, s1, s2, rfl⟩ := of_eqD h
    exact op_eqD (by omega) pins s σ H _ _ v u Q I rx ry ⟨dp, ep, h1.dp T r1, h2.dp T r2, s1, s2, q⟩
  | ne =>
    by_cases hs : ∃ x y, d = .str x ∧ e = .str y
    · obtain ⟨x, y, rfl, rfl⟩ := hs
      cases h; cases r1; cases r2
      exact op_ne pins s σ H _ _ v u Q I rx ry ⟨rfl, by rw [dec_str]; exact q⟩
    have h : (eqD M d e).map (!·) = some k := by cases d <;> cases e <;> first | exact h | exact absurd ⟨_, _, rfl, rfl⟩ hs
    obtain ⟨b, hb, rfl⟩ := Option.map_eq_some_iff.mp h
    obtain ⟨dp, ep, h1, h2, s1, s2, rfl⟩ := of_eqD hb
    exact op_neD (by omega) pins s σ H _ _ v u Q I rx ry ⟨dp, ep, h1.dp T r1, h2.dp T r2, s1, s2, q⟩
  | lt =>
    cases d <;> cases e <;> first | (cases h) | skip
    cases r1; cases r2
    exact op_lt pins s σ H _ _ v u Q I rx ry ⟨_, _, rfl, rfl, q⟩
  | le =>
    cases d <;> cases e <;> first | (cases h) | skip
    cases r1; cases r2
    exact op_le pins s σ H _ _ v u Q I rx ry ⟨_, _, rfl, rfl, q⟩
  | gt =>
    cases d <;> cases e <;> first | (cases h) | skip
    cases r1; cases r2
    exact op_gt pins s σ H _ _ v u Q I rx ry ⟨_, _, rfl, rfl, q⟩
  | ge =>
    cases d <;> cases e <;> first | (cases h) | skip
    cases r1; cases r2
    exact op_ge pins s σ H _ _ v u Q I rx ry ⟨_, _, rfl, rfl, q⟩
  | is =>
    have he : e = .non ∧ k = isNonD d := by
      cases d <;> cases e <;> first | (cases h; exact ⟨rfl, rfl⟩) | (cases h)
    obtain ⟨rfl, hk⟩ := he
    cases r2
    refine op_isN pins s σ H _ _ v u Q I rx ry ⟨rfl, ?_⟩
    rw [isN_rep r1, ← hk]
    exact q
  | isn =>
    have he : e = .non ∧ k = !isNonD d := by
      cases d <;> cases e <;> first | (cases h; exact ⟨rfl, rfl⟩) | (cases h)
    obtain ⟨rfl, hk⟩ := he
    cases r2
    refine op_notN pins s σ H _ _ v u Q I rx ry ⟨rfl, ?_⟩
    rw [isN_rep r1, ← hk]
    exact q
  | mem => exact op_in hu pins s σ H _ _ v u Q I rx ry ⟨js, M, d, e, k, T, r1, r2, h, q⟩
  | nmem =>
    obtain ⟨b, hb, rfl⟩ := Option.map_eq_some_iff.mp h
    exact op_nin hu pins s σ H _ _ v u Q I rx ry ⟨js, M, d, e, b, T, r1, r2, hb, q⟩
theorem atI_rep {K : PySem.W.Frag} {js : List Addr} {H : Hp} {xs : List D} {vs : List V} {i : Int} {d : D} (r : Reps K js H xs vs) (h : atI xs i = some d) : ∃ v, atI vs i = some v ∧ Rep K js H d v := by
  unfold atI at h ⊢
  rw [← r.length]
  obtain ⟨j, e1, e2⟩ := Option.bind_eq_some_iff.mp h
  obtain ⟨v, h1, h2⟩ := r.get e2
  rw [e1]
  exact ⟨v, h1, h2⟩
/-- a[b] -/
def rIx2 (K : PySem.W.Frag) : R2 := fun x y H Q => ∃ js M d e r, Tie K js H M ∧ Rep K js H d x ∧ Rep K js H e y ∧ idxD M d e = some r ∧ ∀ v, Rep K js H r v → Q v H
theorem ix_any (hu : X.A.units + 1 < cLine) : IxR X (rIx2 X.K) := by
  intro value slice pins s σ H x y v u Q I rx ry h hs
  obtain ⟨js, M, d, e, r, T, r1, r2, h, q⟩ := h
  unfold idxD at h
  split at h
  · rename_i xs
    split at h
    · cases r2
      cases r1 with
      | @tup _ b ws h2 k2 =>
        obtain ⟨z, h3, h4⟩ := atI_rep k2 h
        exact ix_tup value slice pins s σ H _ _ v u Q I rx ry ⟨b, ws, _, z, rfl, rfl, h2, h3, q _ h4⟩ hs
    · cases h
  · rename_i xs
    split at h
    · cases r2
      cases r1 with
      | @frl _ b ws h2 k2 =>
        obtain ⟨z, h3, h4⟩ := atI_rep k2 h
        exact ix_list value slice pins s σ H _ _ v u Q I rx ry ⟨b, ws, _, z, rfl, rfl, h2.sq, h3, q _ h4⟩ hs
    · cases h
  · split at h
    · split at h
      · rename_i hz
        cases r1; cases r2
        obtain ⟨c, h1, h2⟩ := Option.map_eq_some_iff.mp h
        subst h2
        exact ix_str value slice pins s σ H _ _ v u Q I rx ry ⟨_, _, c, rfl, rfl, hz, h1, q _ (.str _)⟩ hs
      · cases h
    · cases h
  · split at h
    · rename_i e1
      obtain ⟨p, u1, rfl, j1, h1, o1⟩ := r1.refH T e1
      cases o1 with
      | lst k2 =>
        split at h
        · cases r2
          obtain ⟨z, h3, h4⟩ := atI_rep k2 h
          exact ix_list value slice pins s σ H _ _ v u Q I rx ry ⟨p, _, _, z, rfl, rfl, .inl (.inl h1), h3, q _ h4⟩ hs
        · cases h
    · rename_i e1
      obtain ⟨p, u1, rfl, j1, h1, o1⟩ := r1.refH T e1
      cases o1 with
      | dct hk hr =>
        obtain ⟨key, ek, ec⟩ := Option.bind_eq_some_iff.mp h
        cases (show v = Value.ref p from rx)
        rw [key_rep r2 ek] at ry
        rcases look_rep (k := key) hk hr with ⟨z1, z2⟩ | ⟨d', v', z1, z2, z3⟩
        · rw [z1] at ec; cases ec
        · rw [z1] at ec; cases ec
          have g : DGet H p (kV key) (some v') := by rw [← z2]; exact .k h1
          exact tail_any (dict_typeIs I g) PySem.F.slot_dict_getitem.lookup (d_getItem hu I g ry fun w' s' I' rw' => ⟨v', H, I', rw', q _ z3⟩) hs
    · cases h
  · cases h
theorem cutL_rep {K : PySem.W.Frag} {js : List Addr} {H : Hp} {xs : List D} {vs : List V} {lo hi : Option Int} (r : Reps K js H xs vs) : Reps K js H (cutL xs lo hi) (cutV vs lo hi) := by
  unfold cutL cutV
  rw [r.length]
  exact (r.drop _).take _
theorem cut_whole {α : Type} {xs : List α} {lo hi : Option Int} (h : sIx xs.length 0 lo = 0 ∧ sIx xs.length xs.length hi = xs.length) : cutL xs lo hi = xs := by
  unfold cutL
  rw [h.1, h.2]
  simp
/-- a[lo:hi] -/
def rSl2 (K : PySem.W.Frag) : V → Option Int → Option Int → Hp → VK → Prop := fun x lo hi H Q => ∃ js M d, Tie K js H M ∧ Rep K js H d x ∧ Go K (Rep K) js H (slcD M d lo hi) Q
theorem sl_any : SlR X (rSl2 X.K) := by
  intro pins s σ H x v vl vu lo hi sl Q I rx hs pl pu h
  obtain ⟨js, M, d, T, r1, g⟩ := h
  unfold slcD at g
  split at g
  · rename_i xs
    cases r1 with
    | @tup _ b ws h2 k2 =>
      refine sl_tupA pins s σ H _ v vl vu lo hi sl Q I rx hs pl pu ⟨b, ws, rfl, h2, fun e => ?_, fun _ => g.newT T (cutL_rep k2)⟩
      have e' := e
      rw [← k2.length] at e'
      rw [cut_whole e'] at g
      exact g.ok .refl T (.tup h2 k2)
  · cases r1 with
    | @frl _ b ws h2 k2 => exact sl_list pins s σ H _ v vl vu lo hi sl Q I rx hs pl pu ⟨b, ws, rfl, h2.sq, g.new T (.lst (cutL_rep k2))⟩
  · obtain ⟨c, g⟩ := g.when
    cases r1
    exact sl_str pins s σ H _ v vl vu lo hi sl Q I rx hs pl pu ⟨_, rfl, c, g.ok .refl T (.str _)⟩
  · split at g
    · rename_i e1
      obtain ⟨p, u1, rfl, j1, h1, o1⟩ := r1.refH T e1
      cases o1 with
      | lst k2 => exact sl_list pins s σ H _ v vl vu lo hi sl Q I rx hs pl pu ⟨p, _, rfl, .inl (.inl h1), g.new T (.lst (cutL_rep k2))⟩
    · exact g.bad
  · exact g.bad
/-- truth -/
theorem tru_any : TruR X (fun x H Q => ∃ js M d b, Tie X.K js H M ∧ Rep X.K js H d x ∧ truth M d = some b ∧ Q b H) := by
  intro pins s σ H x v Q I rx h
  obtain ⟨js, M, d, b, T, r1, h, q⟩ := h
  refine tru_ok pins s σ H x v Q I rx ⟨b, ?_, q⟩
  unfold truth at h
  split at h
  · cases h; cases r1; rfl
  · cases h; cases r1; rfl
  · cases h; cases r1; rfl
  · split at h
    · cases h; cases r1; exact ⟨by assumption, rfl⟩
    · cases h
  · cases h
    cases r1 with
    | @tup xs b ws h2 k2 =>
      refine .inr (.inl ⟨ws, h2, ?_⟩)
      cases k2 <;> rfl
  · cases h
    cases r1 with
    | @frl xs b ws h2 k2 =>
      refine .inl ⟨ws, h2.sq, ?_⟩
      cases k2 <;> rfl
  · split at h
    · rename_i e1
      cases h
      obtain ⟨p, u1, rfl, j1, h1, o1⟩ := r1.refH T e1
      cases o1 with
      | lst k2 => exact .inl ⟨_, .inl (.inl h1), by cases k2 <;> rfl⟩
    · rename_i kvs e1
      cases h
      obtain ⟨p, u1, rfl, j1, h1, o1⟩ := r1.refH T e1
      cases o1 with
      | @dct _ ws hk _ =>
        refine .inr (.inr ⟨ws, h1, ?_⟩)
        cases kvs <;> cases ws <;> first | rfl | (cases hk)
    · cases h
end
end Cp

namespace Cp
open PySem L2 PyProof.Rows HT

mutual
theorem Py.noDict {M : Mem} : ∀ {d : D} {p : PyData}, Py M d p → p.hasDict = false
  | _, _, .non => by simp only [PyData.hasDict]
  | _, _, .bl _ => by simp only [PyData.hasDict]
  | _, _, .int _ => by simp only [PyData.hasDict]
  | _, _, .str _ => by simp only [PyData.hasDict]
  | _, _, .tup h => by simp only [PyData.hasDict]; exact PyAll.noDict h
  | _, _, .lst _ h => by simp only [PyData.hasDict]; exact PyAll.noDict h
  | _, _, .frl h => by simp only [PyData.hasDict]; exact PyAll.noDict h
theorem PyAll.noDict {M : Mem} : ∀ {d : List D} {p : List PyData}, PyAll M d p → PyData.hasDictAll p = false
  | _, _, .nil => by simp only [PyData.hasDictAll]
  | _, _, .cons h hs => by simp only [PyData.hasDictAll, Py.noDict h, PyAll.noDict hs, Bool.or_self]
end
/-! ### order -/
theorem sortI_perm (ns : List Int) : (sortI ns).Perm ns := List.mergeSort_perm _ _
theorem sortI_le (ns : List Int) : (sortI ns).Pairwise (· ≤ ·) := by
  have h := List.pairwise_mergeSort (le := fun a b : Int => decide (a ≤ b)) (fun a b c h1 h2 => by simp at *; omega) (fun a b => by simp; omega) ns
  exact h.imp fun h => of_decide_eq_true h
theorem sort_unique : ∀ {a b : List Int}, a.Perm b → a.Pairwise (· ≤ ·) → b.Pairwise (· ≤ ·) → a = b
  | [], b, p, _, _ => (List.nil_perm.mp p).symm
  | x :: a, [], p, _, _ => absurd p.length_eq (by simp)
  | x :: a, y :: b, p, h1, h2 => by
    rw [List.pairwise_cons] at h1 h2
    have hx : x ∈ y :: b := p.mem_iff.mp List.mem_cons_self
    have hy : y ∈ x :: a := p.mem_iff.mpr List.mem_cons_self
    have e : x = y := by
      rcases List.mem_cons.mp hx with e | hx
      · exact e
      · rcases List.mem_cons.mp hy with e | hy
        · exact e.symm
        · exact Int.le_antisymm (h1.1 y hy) (h2.1 x hx)
    subst e
    rw [sort_unique (List.perm_cons x |>.mp p) h1.2 h2.2]
/-- the builtin as a value -/
def Bi.val : Bi → Value
  | .len => .builtin "len" | .list => .type "list" | .tuple => .type "tuple" | .str => .type "str" | .repr => .builtin "repr" | .ord => .builtin "ord" | .int => .type "int"
  | .all => .builtin "all" | .any => .builtin "any" | .sum => .builtin "sum" | .sorted => .builtin "sorted" | .max => .builtin "max" | .min => .builtin "min" | .dict => .type "dict" | .set => .type "set"
def rBi (K : PySem.W.Frag) (b : Bi) : List V → Hp → VK → Prop := fun xs H Q => ∃ js M ds, Tie K js H M ∧ Reps K js H ds xs ∧ Go K (Rep K) js H (biD M b ds) Q
section
variable {K : PySem.W.Frag} {js : List Addr} {H : Hp} {M : Mem}
/-- the items of a list, a tuple as they stand -/
theorem items_rep (T : Tie K js H M) {d : D} {v : V} {xs : List D} (r : Rep K js H d v) (h : itemsD M d = some xs) : ∃ a vs, v = .ref a ∧ (SqL K H a vs ∨ SqT K H a vs) ∧ Reps K js H xs vs := by
  unfold itemsD at h
  split at h
  · cases h
    cases r with
    | tup h2 k2 => exact ⟨_, _, rfl, .inr h2, k2⟩
  · cases h
    cases r with
    | frl h2 k2 => exact ⟨_, _, rfl, .inl h2.sq, k2⟩
  · split at h
    · rename_i e1
      cases h
      obtain ⟨p, u1, rfl, j1, h1, o1⟩ := r.refH T e1
      cases o1 with
      | lst k2 => exact ⟨_, _, rfl, .inl (.inl (.inl h1)), k2⟩
    · cases h
  · cases h
theorem list_rep (T : Tie K js H M) {d : D} {v : V} {xs : List D} (r : Rep K js H d v) (h : listD M d = some xs) : ∃ a vs, v = .ref a ∧ SqL K H a vs ∧ Reps K js H xs vs := by
  unfold listD at h
  split at h
  · cases h
    cases r with
    | frl h2 k2 => exact ⟨_, _, rfl, h2.sq, k2⟩
  · split at h
    · rename_i e1
      cases h
      obtain ⟨p, u1, rfl, j1, h1, o1⟩ := r.refH T e1
      cases o1 with
      | lst k2 => exact ⟨_, _, rfl, .inl (.inl h1), k2⟩
    · cases h
  · cases h
theorem bools_of {xs : List D} : ∀ {bs : List Bool}, boolsD xs = some bs → xs = bs.map D.bl := by
  induction xs with
  | nil => intro bs h; cases h; rfl
  | cons x xs ih =>
    intro bs h
    cases x <;> first | (cases h) | skip
    rename_i b
    obtain ⟨cs, h1, h2⟩ := Option.map_eq_some_iff.mp h
    subst h2
    rw [ih h1]
    rfl
theorem ints_of {xs : List D} : ∀ {bs : List Int}, intsD xs = some bs → xs = bs.map D.int := by
  induction xs with
  | nil => intro bs h; cases h; rfl
  | cons x xs ih =>
    intro bs h
    cases x <;> first | (cases h) | skip
    rename_i b
    obtain ⟨cs, h1, h2⟩ := Option.map_eq_some_iff.mp h
    subst h2
    rw [ih h1]
    rfl
theorem strs_of {xs : List D} : ∀ {bs : List Str}, strsD xs = some bs → xs = bs.map D.str := by
  induction xs with
  | nil => intro bs h; cases h; rfl
  | cons x xs ih =>
    intro bs h
    cases x <;> first | (cases h) | skip
    rename_i b
    obtain ⟨cs, h1, h2⟩ := Option.map_eq_some_iff.mp h
    subst h2
    rw [ih h1]
    rfl
end
section
variable {X : Cx}
theorem call_repr (hu : X.A.units + 66 < cLine) (hg : X.A.guards = some []) : CallR X (.builtin "repr") (fun xs H Q => ∃ js M d p, xs = [d] ∧ Tie X.K js H M ∧ (∃ e, Rep X.K js H e d ∧ Py M e p) ∧ p.showable = true ∧ p.depth ≤ 64 ∧ p.shown.length ≤ sizeLine ∧ Q (.str p.shown) H) := by
  intro pins s σ H xs us Q I r h
  obtain ⟨js, M, d, p, rfl, T, ⟨e, re, py⟩, hs, hd, hz, q⟩ := h
  obtain ⟨u, rfl, ru⟩ := vals1 r
  have dp := py.dp T re
  obtain ⟨as, rd⟩ := Dp.reads I p d u dp ru
  have fin : ∀ tk (t : Tok), EP X pins σ Q (.str p.shown t) { s with toks := tk } := fun tk t => ⟨.str _, H, I.tok tk, ⟨_, rfl⟩, q⟩
  cases py with
  | non => cases re; cases ru; simp only [PyData.shown] at fin; exact P.repr_of_none (fin _ _)
  | bl b => cases re; cases ru; simp only [PyData.shown] at fin; exact P.repr_of_bool (fin _ _)
  | int i =>
    cases re
    obtain ⟨t, rfl⟩ := ru
    simp only [PyData.shown] at fin
    exact P.repr_of_int (by simpa [PyData.showable] using hs) (fin _ _)
  | str x =>
    cases re
    obtain ⟨t, rfl⟩ := ru
    simp only [PyData.shown] at fin hz
    exact P.repr_of_str (fin _ _) hz
  | tup h =>
    cases re with
    | tup h2 k2 =>
      cases ru
      exact repr_of_reads' rd hs (PyData.noDict_hsm (Py.noDict (.tup h))) hg (by omega) (fun _ _ z => z) (fun h' t tk kk => ⟨.str _, H, I.kept kk, ⟨_, rfl⟩, q⟩) hz
  | lst e h =>
    cases re with
    | ref h2 =>
      cases ru
      exact repr_of_reads' rd hs (PyData.noDict_hsm (Py.noDict (.lst e h))) hg (by omega) (fun _ _ z => z) (fun h' t tk kk => ⟨.str _, H, I.kept kk, ⟨_, rfl⟩, q⟩) hz
  | frl h =>
    cases re with
    | frl h2 k2 =>
      cases ru
      exact repr_of_reads' rd hs (PyData.noDict_hsm (Py.noDict (.frl h))) hg (by omega) (fun _ _ z => z) (fun h' t tk kk => ⟨.str _, H, I.kept kk, ⟨_, rfl⟩, q⟩) hz
theorem bi_ok (hu : X.A.units + 66 < cLine) (hg : X.A.guards = some []) (hc : X.calm = true) (b : Bi) : CallR X b.val (rBi X.K b) := by
  intro pins s σ H xs us Q I r h
  obtain ⟨js, M, ds, T, rs, g⟩ := h
  unfold biD at g
  split at g
  · -- len
    obtain ⟨n, hn, g⟩ := g.of
    cases rs with
    | cons r1 rs =>
      cases rs
      have q := g.ok .refl T (.int _)
      unfold lenD at hn
      split at hn
      · split at hn
        · cases hn; cases r1
          exact call_len pins s σ H _ us Q I r ⟨_, _, rfl, ⟨by assumption, rfl⟩, q⟩
        · cases hn
      · cases hn
        cases r1 with
        | tup h2 k2 => exact call_len pins s σ H _ us Q I r ⟨_, _, rfl, .inr ⟨_, h2, k2.length⟩, q⟩
      · cases hn
        cases r1 with
        | frl h2 k2 => exact call_len pins s σ H _ us Q I r ⟨_, _, rfl, .inl ⟨_, h2.sq, k2.length⟩, q⟩
      · split at hn
        · rename_i e1
          cases hn
          obtain ⟨p, u1, rfl, j1, h1, o1⟩ := r1.refH T e1
          cases o1 with
          | lst k2 => exact call_len pins s σ H _ us Q I r ⟨_, _, rfl, .inl ⟨_, .inl (.inl h1), k2.length⟩, q⟩
        · rename_i e1
          cases hn
          obtain ⟨p, u1, rfl, j1, h1, o1⟩ := r1.refH T e1
          cases o1 with
          | dct hk _ =>
            have hl := congrArg List.length hk
            rw [List.length_map, List.length_map] at hl
            rw [hl] at q
            exact call_lenD pins s σ H _ us Q I r ⟨p, _, rfl, h1, q⟩
        · cases hn
      · cases hn
  · -- list
    obtain ⟨ys, hy, g⟩ := g.of
    cases rs with
    | cons r1 rs =>
      cases rs
      obtain ⟨a, vs, rfl, h2, k2⟩ := items_rep T r1 hy
      exact call_list_of pins s σ H _ us Q I r ⟨a, vs, rfl, h2, g.new T (.lst k2)⟩
  · -- tuple
    obtain ⟨ys, hy, g⟩ := g.of
    cases rs with
    | cons r1 rs =>
      cases rs
      obtain ⟨a, vs, rfl, h2, k2⟩ := items_rep T r1 hy
      rcases h2 with h2 | h2
      · exact call_tuple_of pins s σ H _ us Q I r ⟨a, vs, rfl, .inl ⟨h2, g.newT T k2⟩⟩
      · exact call_tuple_of pins s σ H _ us Q I r ⟨a, vs, rfl, .inr ⟨h2, g.ok .refl T (.tup h2 k2)⟩⟩
  · -- str
    obtain ⟨c, g⟩ := g.when
    cases rs with
    | cons r1 rs =>
      cases rs; cases r1
      exact call_str_int pins s σ H _ us Q I r ⟨_, rfl, c, g.ok .refl T (.str _)⟩
  · -- str of a truth
    cases rs with
    | cons r1 rs =>
      cases rs; cases r1
      obtain ⟨u, rfl, r1⟩ := vals1 r
      cases r1
      exact PySem.P.str_of_bool ⟨.str _, H, I.tok _, ⟨_, rfl⟩, g.ok .refl T (.str _)⟩
  · -- repr
    obtain ⟨p, hp, g⟩ := g.of
    obtain ⟨⟨c1, c2, c3⟩, g⟩ := g.when
    cases rs with
    | cons r1 rs =>
      cases rs
      exact call_repr hu hg pins s σ H _ us Q I r ⟨js, M, _, p, rfl, T, ⟨_, r1, of_tree hp⟩, c1, c2, c3, g.ok .refl T (.str _)⟩
  · -- ord
    rename_i x
    cases rs with
    | cons r1 rs =>
      cases rs; cases r1
      split at g
      · rename_i c e
        refine call_ord pins s σ H _ us Q I r ⟨x, rfl, ?_, ?_⟩
        · have := congrArg List.length e
          rw [Array.length_toList] at this
          exact this
        · have e2 : x.cps.getD 0 0 = c := by
            rw [Array.getD_eq_getD_getElem?, ← Array.getElem?_toList, e]
            rfl
          rw [e2]
          exact g.ok .refl T (.int _)
      · exact g.bad
  · -- int
    cases rs with
    | cons r1 rs =>
      cases rs; cases r1
      exact call_int1 pins s σ H _ us Q I r (.inl ⟨_, rfl, g.ok .refl T (.int _)⟩)
  · cases rs with
    | cons r1 rs =>
      cases rs; cases r1
      exact call_int1 pins s σ H _ us Q I r (.inr ⟨_, rfl, g.ok .refl T (.int _)⟩)
  · -- all
    obtain ⟨ys, hy, g⟩ := g.of
    obtain ⟨bs, hb, g⟩ := g.of
    cases rs with
    | cons r1 rs =>
      cases rs
      obtain ⟨a, vs, rfl, h2, k2⟩ := list_rep T r1 hy
      rw [bools_of hb] at k2
      rw [k2.bools] at h2
      exact cr_all hc pins s σ H _ us Q I r ⟨a, bs, rfl, h2, g.ok .refl T (.bl _)⟩
  · -- any
    obtain ⟨ys, hy, g⟩ := g.of
    obtain ⟨bs, hb, g⟩ := g.of
    cases rs with
    | cons r1 rs =>
      cases rs
      obtain ⟨a, vs, rfl, h2, k2⟩ := list_rep T r1 hy
      rw [bools_of hb] at k2
      rw [k2.bools] at h2
      exact cr_any hc pins s σ H _ us Q I r ⟨a, bs, rfl, h2, g.ok .refl T (.bl _)⟩
  · -- sum
    obtain ⟨ys, hy, g⟩ := g.of
    obtain ⟨bs, hb, g⟩ := g.of
    cases rs with
    | cons r1 rs =>
      cases rs
      obtain ⟨a, vs, rfl, h2, k2⟩ := list_rep T r1 hy
      rw [ints_of hb] at k2
      rw [k2.ints] at h2
      exact cr_sum hc pins s σ H _ us Q I r ⟨a, bs, rfl, h2, g.ok .refl T (.int _)⟩
  · -- the lesser of two
    cases rs with
    | cons r1 rs =>
      cases rs with
      | cons r2 rs =>
        cases rs; cases r1; cases r2
        exact call_min2 hc pins s σ H _ us Q I r ⟨_, _, rfl, g.ok .refl T (.int _)⟩
  · -- the greater of two
    cases rs with
    | cons r1 rs =>
      cases rs with
      | cons r2 rs =>
        cases rs; cases r1; cases r2
        exact call_max2 hc pins s σ H _ us Q I r ⟨_, _, rfl, g.ok .refl T (.int _)⟩
  · -- sorted ints
    obtain ⟨ys, hy, g⟩ := g.of
    obtain ⟨ns, hb, g⟩ := g.of
    obtain ⟨hl, g⟩ := g.when
    cases rs with
    | cons r1 rs =>
      cases rs
      obtain ⟨a, vs, rfl, h2, k2⟩ := list_rep T r1 hy
      rw [ints_of hb] at k2
      rw [k2.ints] at h2
      refine cr_sorted pins s σ H _ us Q I r ⟨a, ns, rfl, h2, hl, fun ns' p hp hs hn => ?_⟩
      rw [sort_unique (hp.trans (sortI_perm ns).symm) hs (sortI_le ns)]
      exact g.new T (.lst (Reps.of_ints _)) p hn
  · exact g.bad

/-! ### methods -/
def rMe (K : PySem.W.Frag) (f : Mem → D → List D → RD) : V → List V → Hp → VK → Prop := fun x xs H Q => ∃ js M d ds, Tie K js H M ∧ Rep K js H d x ∧ Reps K js H ds xs ∧ Go K (Rep K) js H (f M d ds) Q
theorem Reps.eraseIdx {K : PySem.W.Frag} {js : List Addr} {H : Hp} : ∀ {xs : List D} {vs : List V} (i : Nat), Reps K js H xs vs → Reps K js H (xs.eraseIdx i) (vs.eraseIdx i)
  | _, _, _, .nil => .nil
  | _, _, 0, .cons _ r => r
  | _, _, i + 1, .cons k r => .cons k (Reps.eraseIdx i r)
theorem me_append : MtR X "list.append" (rMe X.K appendD) := by
  intro pins s σ H x xs v us Q I rx rs h
  obtain ⟨js, M, d, ds, T, r1, r2, g⟩ := h
  unfold appendD at g
  split at g
  · split at g
    · rename_i e1
      obtain ⟨c, g⟩ := g.when
      obtain ⟨p, u1, rfl, j1, h1, o1⟩ := r1.refH T e1
      cases r2 with
      | cons ry r2 =>
        cases r2
        cases o1 with
        | lst k2 =>
          obtain ⟨x1, T1⟩ := T.set j1 (.lst (k2.append (.cons ry .nil)))
          exact mt_append pins s σ H _ _ v us Q I rx rs ⟨p, _, _, rfl, rfl, h1, by rw [← k2.length]; exact c, g.ok x1 T1 .non⟩
    · exact g.bad
  · exact g.bad
theorem me_extend : MtR X "list.extend" (rMe X.K extendD) := by
  intro pins s σ H x xs v us Q I rx rs h
  obtain ⟨js, M, d, ds, T, r1, r2, g⟩ := h
  unfold extendD at g
  split at g
  · split at g
    · rename_i e1 e2
      obtain ⟨c, g⟩ := g.when
      obtain ⟨p, u1, rfl, j1, h1, o1⟩ := r1.refH T e1
      cases r2 with
      | cons ry r2 =>
        cases r2
        obtain ⟨q, u2, rfl, j2, h2, o2⟩ := ry.refH T e2
        cases o1 with
        | lst k1 =>
          cases o2 with
          | lst k2 =>
            obtain ⟨x1, T1⟩ := T.set j1 (.lst (k1.append k2))
            exact mt_extend pins s σ H _ _ v us Q I rx rs ⟨p, q, _, _, rfl, rfl, h1, h2, by rw [← k1.length, ← k2.length]; exact c, g.ok x1 T1 .non⟩
    · exact g.bad
  · exact g.bad
theorem me_pop : MtR X "list.pop" (rMe X.K popD) := by
  intro pins s σ H x xs v us Q I rx rs h
  obtain ⟨js, M, d, ds, T, r1, r2, g⟩ := h
  unfold popD at g
  split at g
  · split at g
    · rename_i e1
      obtain ⟨y, ey, g⟩ := g.of
      obtain ⟨p, u1, rfl, j1, h1, o1⟩ := r1.refH T e1
      cases r2
      cases o1 with
      | lst k1 =>
        obtain ⟨w, hw, rw'⟩ := k1.get ey
        obtain ⟨x1, T1⟩ := T.set j1 (.lst k1.dropLast)
        rw [k1.length] at hw
        exact mt_pop pins s σ H _ _ v us Q I rx rs ⟨p, _, w, rfl, rfl, h1, hw, g.ok x1 T1 (rw'.ext T x1)⟩
    · exact g.bad
  · split at g
    · rename_i e1
      obtain ⟨j, ej, g⟩ := g.of
      obtain ⟨y, ey, g⟩ := g.of
      obtain ⟨p, u1, rfl, j1, h1, o1⟩ := r1.refH T e1
      cases r2 with
      | cons ry r2 =>
        cases r2; cases ry
        cases o1 with
        | @lst _ vs k1 =>
          obtain ⟨w, hw, rw'⟩ := k1.get ey
          obtain ⟨x1, T1⟩ := T.set j1 (.lst (k1.eraseIdx j))
          rw [k1.length] at ej
          obtain ⟨a1, a2, a3, a4⟩ := ixN_seq ej
          obtain ⟨_, _, _, _, hz⟩ := I.lst h1
          have hn := line63
          have hs := sizeLine_eq
          exact mt_popAt pins s σ H _ _ v us Q I rx rs ⟨p, _, _, j, w, rfl, rfl, h1, by omega, by omega, a1, hw, g.ok x1 T1 (rw'.ext T x1)⟩
    · exact g.bad
  · exact g.bad
theorem me_join : MtR X "str.join" (rMe X.K joinD) := by
  intro pins s σ H x xs v us Q I rx rs h
  obtain ⟨js, M, d, ds, T, r1, r2, g⟩ := h
  unfold joinD at g
  split at g
  · obtain ⟨ys, hy, g⟩ := g.of
    obtain ⟨zs, hz, g⟩ := g.of
    obtain ⟨c, g⟩ := g.when
    cases r2 with
    | cons ry r2 =>
      cases r2; cases r1
      obtain ⟨a, vs, rfl, h2, k2⟩ := items_rep T ry hy
      rw [strs_of hz] at k2
      rw [k2.strs] at h2
      exact mt_join pins s σ H _ _ v us Q I rx rs ⟨_, a, zs, rfl, rfl, h2, c, g.ok .refl T (.str _)⟩
  · exact g.bad
theorem me_get (hu : X.A.units + 1 < cLine) : MtR X "dict.get" (rMe X.K getD) := by
  intro pins s σ H x xs v us Q I rx rs h
  obtain ⟨js, M, d, ds, T, r1, r2, g⟩ := h
  unfold getD at g
  split at g
  · split at g
    · rename_i e1
      obtain ⟨k, ek, g⟩ := g.of
      obtain ⟨p, u1, rfl, j1, h1, o1⟩ := r1.refH T e1
      cases r2 with
      | cons ry r2 =>
        cases r2
        cases o1 with
        | dct hk hr =>
          cases (show v = Value.ref p from rx)
          obtain ⟨u, rfl, ru⟩ := vals1 rs
          rw [key_rep ry ek] at ru
          refine d_get1 hu I (.k h1) ru fun w' s' I' r' => ⟨_, H, I', r', ?_⟩
          refine g.ok .refl T ?_
          rcases look_rep (k := k) hk hr with ⟨z1, z2⟩ | ⟨d', v', z1, z2, z3⟩
          · rw [z1, z2]; exact .non
          · rw [z1, z2]; exact z3
    · exact g.bad
  · split at g
    · rename_i e1
      obtain ⟨k, ek, g⟩ := g.of
      obtain ⟨p, u1, rfl, j1, h1, o1⟩ := r1.refH T e1
      cases r2 with
      | cons ry r2 =>
        cases r2 with
        | cons rd r2 =>
          cases r2
          cases o1 with
          | dct hk hr =>
            cases (show v = Value.ref p from rx)
            obtain ⟨u, u', rfl, ru, ru'⟩ := vals2 rs
            rw [key_rep ry ek] at ru
            refine d_get2 hu I (.k h1) ru ru' fun w' s' I' r' => ⟨_, H, I', r', ?_⟩
            refine g.ok .refl T ?_
            rcases look_rep (k := k) hk hr with ⟨z1, z2⟩ | ⟨d', v', z1, z2, z3⟩
            · rw [z1, z2]; exact rd
            · rw [z1, z2]; exact z3
    · exact g.bad
  · exact g.bad
end
end Cp

/-! The compact syntax against the row's own. -/
namespace Cp
open PySem L2

def visB (c : Scope) (x : Str) : Bool := match c.names.lookup x with | some .local => true | some .cell => true | some .free => true | _ => false
def glbB (c : Scope) (x : Str) : Bool := match c.names.lookup x with | some .globalImplicit => true | _ => false
/-- a name that is stored here -/
def stoB (c : Scope) (f : Str → Bool) (x : Str) : Bool := match c.names.lookup x with | some .local => true | some .cell => f x | _ => false
def okN (x : Str) : Bool := decide (x ≠ "__debug__") && decide (x ≠ "__classdict__") && decide (x ≠ "__name__")
def noSl : Expr → Bool | .Slice .. => false | _ => true
def noStar : Expr → Bool | .Starred .. => false | _ => true
def noComp : Expr → Bool | .ListComp .. => false | .SetComp .. => false | .DictComp .. => false | _ => true
def noSet : Expr → Bool | .Set .. => false | _ => true
def noBase : Expr → Bool | .Call (.Name _ _) [] [] _ => false | _ => true
def noTst : Expr → Bool | .UnaryOp .Not _ _ => false | .BoolOp .. => false | .IfExp .. => false | .Compare .. => false | _ => true
def isCmp : Expr → Bool | .Compare .. => true | _ => false
def noTup : Expr → Bool | .Tuple .. => false | _ => true
def litM : Lit → Const → Bool
  | .non, .none => true
  | .bl a, .bool b => a == b
  | .int a, .int b => a == b
  | .str a, .str b => decide (a = b)
  | _, _ => false
def locN (c : Scope) : Expr → Bool | .Name x _ => decide (c.names.lookup x = some .local) | _ => false
/-- no stores are swapped -/
def swNo (c : Scope) (tg v : Expr) : Bool := noTup tg || noTup v || match tg, v with
  | .Tuple ts _ _, .Tuple vs _ _ => !(ts.length == 2 || ts.length == 3) || vs.length != ts.length || !ts.all (locN c) || vs.all (foldedForSure 8)
  | _, _ => false
def locB (c : Scope) (x : Str) : Bool := decide (c.names.lookup x = some .local)
def namesM (N : List Str) (c : Scope) (f : Str → Bool) : List Nat → List Expr → Bool
  | [], [] => true
  | i :: is, .Name x _ :: es => decide (N[i]? = some x) && stoB c f x && namesM N c f is es
  | _, _ => false
def Tg.names : Tg → List Nat
  | .nm i => [i]
  | .tp is => is
  | .sb _ _ => []
/-- f({..}) -/
def setCall : Expr → Option (Str × Expr × Expr × Expr × List Expr × Int × Scope)
  | .Call (.Name fx _) [.SetComp y [⟨tg, iter, ifs, k⟩] scope _] [] _ => some (fx, y, tg, iter, ifs, k, scope)
  | _ => none
theorem setCall_eq {x : Expr} {fx : Str} {y tg iter : Expr} {ifs : List Expr} {k : Int} {scope : Scope} (h : setCall x = some (fx, y, tg, iter, ifs, k, scope)) : ∃ p1 p2 p, x = .Call (.Name fx p1) [.SetComp y [⟨tg, iter, ifs, k⟩] scope p2] [] p := by
  unfold setCall at h
  split at h
  · cases h; exact ⟨_, _, _, rfl⟩
  · cases h
section
variable (G : Mdl) (N : List Str)
mutual
def mE (c : Scope) (f : Str → Bool) : E → Expr → Bool
  | .var i, .Name x _ => decide (N[i]? = some x) && visB c x && okN x
  | .lit l, .Constant k _ _ => litM l k
  | .glob g, .Name x _ => decide ((G.con[g]?).map (·.1) = some x) && glbB c x && okN x
  | .bin o a b, .BinOp l op r _ => decide (o.py = op) && mE c f a l && mE c f b r
  | .neg a, .UnaryOp .USub x _ => mE c f a x
  | .not a, .UnaryOp .Not x _ => mE c f a x
  | .bool k es, .BoolOp op vs _ => decide (op = if k then .And else .Or) && !vs.isEmpty && mEs c f es vs
  | .cmp k a b, .Compare l [op] [r] _ => decide (k.py = op) && noSet r && mE c f a l && mE c f b r
  | .chain k1 k2 a b d, .Compare l [o1, o2] [r1, r2] _ => decide (k1.py = o1) && decide (k2.py = o2) && noSet r1 && noSet r2 && mE c f a l && mE c f b r1 && mE c f d r2
  | .ite t a b, .IfExp x y z _ => mT c f t x && mE c f a y && mE c f b z
  | .tup es, .Tuple xs _ _ => mEs c f es xs
  | .lst es, .List xs _ => mEs c f es xs
  | .dic ps, .Dict ks vs _ => !ks.isEmpty && decide (ks.length = vs.length) && decide (ks.length ≤ 15) && mPs c f ps ks vs
  | .idx a b, .Subscript x y _ => noSl y && mE c f a x && mE c f b y
  | .slc a lo hi, .Subscript x (.Slice l h none _) _ => mE c f a x && mO c f lo l && mO c f hi h
  | .rev a, .Subscript x (.Slice none none (some (.UnaryOp .USub (.Constant (.int k) _ _) _)) _) _ => decide (k = 1) && mE c f a x
  | .call g es, .Call (.Name x _) xs [] _ => decide ((G.fns[g]?).map (·.name) = some x) && glbB c x && okN x && mEs c f es xs
  | .bi b es, .Call (.Name x _) xs [] _ => decide (b.nm = x) && glbB c x && !xs.isEmpty && mEs c f es xs
  | .isi a t, .Call (.Name x _) [y, .Name z _] [] _ => decide (x = "isinstance") && glbB c x && glbB c z && decide (z = Str.ofString t) && ["int", "bool", "str", "tuple", "list", "dict"].contains t && noStar y && mE c f a y
  | .meth m o es, .Call (.Attribute x nm apos) xs [] cpos => decide (m.nm = nm) && decide (apos.endLine = cpos.line) && noBase x && decide (xs.length < 29) && mE c f o x && mEs c f es xs
  | .lc elt t it cond own, .ListComp y [⟨tg, iter, ifs, k⟩] scope _ => decide (k = 0) && noSet iter && t.names.all own.contains && blkC N c scope (own.map fun i => (N.getD i Str.empty, i)) && mI c f it iter &&
      mG (relS scope c) (fun x => scope.names.lookup x == some .cell) t tg && mIfs (relS scope c) (fun x => scope.names.lookup x == some .cell) cond ifs && mE (relS scope c) (fun x => scope.names.lookup x == some .cell) elt y
  | .ssc elt t it cond own, x => match setCall x with
    | some (fx, y, tg, iter, ifs, k, scope) => decide (fx = "sorted") && glbB c fx && decide (k = 0) && noSet iter && t.names.all own.contains && blkC N c scope (own.map fun i => (N.getD i Str.empty, i)) && mI c f it iter &&
      mG (relS scope c) (fun x => scope.names.lookup x == some .cell) t tg && mIfs (relS scope c) (fun x => scope.names.lookup x == some .cell) cond ifs && mE (relS scope c) (fun x => scope.names.lookup x == some .cell) elt y
    | none => false
  | .trg a, .Call (.Name x _) [.Call (.Name y _) [z] [] _] [] _ => decide (x = "tuple") && decide (y = "range") && glbB c x && glbB c y && noStar z && mE c f a z
  | .lrg a, .Call (.Name x _) [.Call (.Name y _) [z] [] _] [] _ => decide (x = "list") && decide (y = "range") && glbB c x && glbB c y && noStar z && mE c f a z
  | _, _ => false
def mEs (c : Scope) (f : Str → Bool) : Es → List Expr → Bool
  | .nil, [] => true
  | .cons e es, x :: xs => noStar x && mE c f e x && mEs c f es xs
  | _, _ => false
def mPs (c : Scope) (f : Str → Bool) : Ps → List (Option Expr) → List Expr → Bool
  | .nil, [], [] => true
  | .cons k v ps, some x :: xs, y :: ys => mE c f k x && mE c f v y && mPs c f ps xs ys
  | _, _, _ => false
def mT (c : Scope) (f : Str → Bool) : T → Expr → Bool
  | .not t, .UnaryOp .Not x _ => mT c f t x
  | .bool k ts, .BoolOp op vs _ => decide (op = if k then .And else .Or) && !vs.isEmpty && mTs c f ts vs
  | .val e, x => (noTst x || isCmp x) && mE c f e x
  | _, _ => false
def mTs (c : Scope) (f : Str → Bool) : Ts → List Expr → Bool
  | .nil, [] => true
  | .cons t ts, x :: xs => mT c f t x && mTs c f ts xs
  | _, _ => false
/-- the tests of a comprehension -/
def mIfs (c : Scope) (f : Str → Bool) : Ts → List Expr → Bool
  | .nil, [] => true
  | .cons t ts, x :: xs => mT c f t x && mIfs c f ts xs
  | _, _ => false
def mO (c : Scope) (f : Str → Bool) : O → Option Expr → Bool
  | .no, none => true
  | .at e, some x => mE c f e x
  | _, _ => false
def mI (c : Scope) (f : Str → Bool) : It → Expr → Bool
  | .ex e, x => mE c f e x
  | .rg1 a, .Call (.Name y _) [z] [] _ => decide (y = "range") && glbB c y && noStar z && mE c f a z
  | .rg2 a b, .Call (.Name y _) [z, z2] [] _ => decide (y = "range") && glbB c y && noStar z && noStar z2 && mE c f a z && mE c f b z2
  | _, _ => false
def mG (c : Scope) (f : Str → Bool) : Tg → Expr → Bool
  | .nm i, .Name x _ => decide (N[i]? = some x) && stoB c f x
  | .tp is, .Tuple es _ _ => namesM N c f is es
  | .sb o i, .Subscript x y _ => noSl y && mE c f o x && mE c f i y
  | _, _ => false
end
mutual
def mS (c : Scope) (f : Str → Bool) : S → Stmt → Bool
  | .asg (.nm i) e, .Assign [.Name x _] v _ => (noComp v || !locB c x) && decide (N[i]? = some x) && stoB c f x && mE G N c f e v
  | .asg t e, .Assign [tg] v _ => swNo c tg v && mG G N c f t tg && mE G N c f e v
  | .asgc i e, .Assign [.Name y py] (.ListComp elt gs scope pos) _ => decide (N[i]? = some y) && decide (c.names.lookup y = some .local) && decide (py.line = pos.line) &&
      !(scope.names.any fun (n, k) => n == y && (k == .local || k == .cell)) && mE G N c f e (.ListComp elt gs scope pos)
  | .par [i, j] es, .Assign [.Tuple [.Name x px, .Name y py] _ _] (.Tuple [a, b] _ _) _ => decide (N[i]? = some x) && decide (N[j]? = some y) && decide (i ≠ j) && decide (c.names.lookup x = some .local) && decide (c.names.lookup y = some .local) &&
      decide (px.line = py.line) && noStar a && noStar b && !(foldedForSure 8 a && foldedForSure 8 b) && !(constantsAlone 8 a && constantsAlone 8 b) && mEs G N c f es [a, b]
  | .par [i, j, k] es, .Assign [.Tuple [.Name x px, .Name y py, .Name z pz] _ _] (.Tuple [a, b, d] _ _) _ => decide (N[i]? = some x) && decide (N[j]? = some y) && decide (N[k]? = some z) && decide (i ≠ j) && decide (i ≠ k) && decide (j ≠ k) &&
      decide (c.names.lookup x = some .local) && decide (c.names.lookup y = some .local) && decide (c.names.lookup z = some .local) && decide (px.line = py.line) && decide (px.line = pz.line) && noStar a && noStar b && noStar d &&
      !(foldedForSure 8 a && foldedForSure 8 b && foldedForSure 8 d) && !(constantsAlone 8 a && constantsAlone 8 b && constantsAlone 8 d) && mEs G N c f es [a, b, d]
  | .expr e, .Expr v _ => noComp v && mE G N c f e v
  | .iff t a b, .If x y z _ => mT G N c f t x && mSs c f a y && mSs c f b z
  | .whl t a, .While x y [] _ => mT G N c f t x && mSs c f a y
  | .fr t it b, .For tg iter y [] _ => noSet iter && mG G N c f t tg && mI G N c f it iter && mSs c f b y
  | .ret e, .Return (some v) _ => mE G N c f e v
  | .ret0, .Return none _ => true
  | .brk, .Break _ => true
  | .cont, .Continue _ => true
  | .pass, .Pass _ => true
  | .doc, .Expr (.Constant (.str _) _ _) _ => true
  | _, _ => false
def mSs (c : Scope) (f : Str → Bool) : Ss → List Stmt → Bool
  | .nil, [] => true
  | .cons s ss, x :: xs => mS c f s x && mSs c f ss xs
  | _, _ => false
end
end
end Cp

/-! Contexts, calls, expressions. -/
namespace Cp
open PySem L2

/-! ### small facts of the syntax -/
theorem star1 {e : Expr} (h : noStar e = true) (es : List Expr) (env : Env) : starEach (e :: es) env = (false, eval e env) :: starEach es env := by
  cases e <;> first | rfl | exact absurd h Bool.false_ne_true
theorem plainIx {e : Expr} (h : noSl e = true) : PlainIx e := by
  intro o i
  cases e <;> first | rfl | exact absurd h Bool.false_ne_true
theorem noSet1 {e : Expr} (h : noSet e = true) (env : Env) (x : Value) : foldedSetIterable e env x = pure x := by
  cases e <;> first | rfl | exact absurd h Bool.false_ne_true
theorem noMark {e : Expr} (h : noSet e = true) (op : CmpOp) : behindInMarks op e = false := by
  cases e <;> first | rfl | exact absurd h Bool.false_ne_true
theorem base1 {o : Expr} (h : noBase o = true) (m : Str) (env : Env) : attributeBase o m env (eval o env) = eval o env := by
  cases o with
  | Call f as kws p =>
    cases f <;> first | rfl | skip
    cases as <;> first | rfl | skip
    cases kws <;> first | rfl | exact absurd h Bool.false_ne_true
  | _ => rfl
theorem tst1 {e : Expr} (h : noTst e = true) (env : Env) (w : Sem Value) : isTrue e env w = (do let v ← w; standAt e.pos; holding [v] (truthy v)) := by
  cases e with
  | UnaryOp op x p =>
    cases op <;> first | rfl | exact absurd h Bool.false_ne_true
  | _ => first | rfl | exact absurd h Bool.false_ne_true
theorem vis_of {c : Scope} {x : Str} (h : visB c x = true) : Vis c x := by
  unfold visB at h
  split at h <;> first | contradiction | skip
  · exact .inl (by assumption)
  · exact .inr (.inl (by assumption))
  · exact .inr (.inr (by assumption))
theorem glb_of {c : Scope} {x : Str} (h : glbB c x = true) : c.names.lookup x = some .globalImplicit := by
  unfold glbB at h
  split at h <;> first | contradiction | assumption
theorem sto_of {c : Scope} {f : Str → Bool} {x : Str} (h : stoB c f x = true) : Loc c x ∧ (f x = true ∨ c.names.lookup x = some .local) := by
  unfold stoB at h
  split at h <;> first | contradiction | skip
  · exact ⟨.inl (by assumption), .inr (by assumption)⟩
  · exact ⟨.inr (by assumption), .inl h⟩
theorem ok_of {x : Str} (h : okN x = true) : (x == ("__debug__" : Str)) = false ∧ (x == ("__classdict__" : Str)) = false ∧ x ≠ "__name__" := by
  unfold okN at h
  simp only [Bool.and_eq_true, decide_eq_true_eq] at h
  exact ⟨beq_eq_false_iff_ne.mpr h.1.1, beq_eq_false_iff_ne.mpr h.1.2, h.2⟩

/-! ### promises where nothing is being shown -/
structure FnG (P : Program) (w : World) (K : PySem.W.Frag) (mg : Str → Option Value) (base : Heap) (k : Nat) (f : Addr) (fd : FuncData) (ps : List Str) (sp : Sp) : Prop where
  len : ∀ vs H Q E, sp vs H Q E → vs.length = ps.length
  run : ∀ (A : Around) (outer : List Env) (s : Shared) (H : Hp) (args : Args) (us : List Value) (vs : List V) (Q : VK) (E : XK), A.guards = some [] → Room k A → Env0 P w K mg base A outer s H → BindsTo s fd args (ps.zip us) → Vals vs us → sp vs H Q E →
    codeAny (model P w) A (.call (.ref f) args) (CR CX0 outer P w H s Q E) s
theorem run_fnG {X : Cx} {k : Nat} {f : Addr} {fd : FuncData} {ps : List Str} {sp : Sp} {pins : List (Addr × Obj)} {σ : St} {H : Hp} {s : Shared} {Q : VK} {us : List Value} {vs : List V}
    (F : FnG X.prog X.w X.K X.mg X.base k f fd ps sp) (hg : X.A.guards = some []) (hr : Room k X.A) (hb : Binds X.K fd ps []) (I : Inv X pins σ H s) (r : Vals vs us) (h : sp vs H Q E0) :
    wpAny (model X.prog X.w) X.A (call (.ref f) us) (EP X pins σ Q) X.xe s := by
  have bd := hb s us I.kIn (by rw [List.append_nil, ← r.length]; exact F.len _ _ _ _ h)
  rw [List.append_nil] at bd
  refine wpAny_call (codeAny_mono (F.run X.A X.stack s H ⟨us, []⟩ us vs Q E0 hg hr I.env0 bd r h) fun res s' hq => ?_)
  cases res with
  | error e => exact False.elim hq
  | ok fl =>
    cases fl with
    | ret u => exact I.after hq
    | next => exact False.elim hq
    | brk => exact False.elim hq
    | cont => exact False.elim hq
/-- f(..), f a def of the module -/
theorem pe_callG {X : Cx} {k : Nat} {f : Addr} {fd : FuncData} {ps : List Str} {sp : Sp} {x : Str} {p pos : Pos} {e : Expr} {r : List Expr} {t : TA}
    (F : FnG X.prog X.w X.K X.mg X.base k f fd ps sp) (hgd : X.A.guards = some []) (hr : Room k X.A) (hg : Gl X x) (hm : X.mg x = some (.ref f)) (hk : PySem.W.keepIn X.K (.ref f) = true) (hb : Binds X.K fd ps [])
    (ha : PA X (e :: r) t) (hd : (x == ("__debug__" : Str)) = false) (h1 : starEach (e :: r) X.env = (false, eval e X.env) :: starEach r X.env) (h2 : (backTo pos (starEach r X.env)).any (·.1) = false) :
    PE X (.Call (.Name x p) (e :: r) [] pos) (fun σ H Q => t σ H fun vs H1 => sp vs H1 Q E0) := by
  refine ⟨fun pins s σ H Q I h => wpAny_Call_Name_kw (ld_glob I hg hm ?_ hd)⟩
  exact PySem.W.callWith_K (h₀ := X.base) I.ok.mod.kin hk (thn (ha.run pos pins s σ H _ I h) fun us s1 ⟨vs, H1, I1, rv, q⟩ => ⟨I1.kIn, run_fnG F hgd hr hb I1 rv q⟩) h1 h2
theorem pe_callG0 {X : Cx} {k : Nat} {f : Addr} {fd : FuncData} {ps : List Str} {sp : Sp} {x : Str} {p pos : Pos}
    (F : FnG X.prog X.w X.K X.mg X.base k f fd ps sp) (hgd : X.A.guards = some []) (hr : Room k X.A) (hg : Gl X x) (hm : X.mg x = some (.ref f)) (hk : PySem.W.keepIn X.K (.ref f) = true) (hb : Binds X.K fd ps [])
    (hd : (x == ("__debug__" : Str)) = false) : PE X (.Call (.Name x p) [] [] pos) (fun _ H Q => sp [] H Q E0) := by
  refine ⟨fun pins s σ H Q I h => wpAny_Call_Name_kw (ld_glob I hg hm ?_ hd)⟩
  exact PySem.W.callWith_K0 I.kIn hk (run_fnG (us := []) F hgd hr hb I .nil h)

/-! ### what the module gives, a context -/
/-- a def's promise: what its run tells -/
def spG (K : PySem.W.Frag) (G : Mdl) (n : Nat) (f : Nat) : Sp := fun vs H Q _ => ∃ js M ds, Tie K js H M ∧ Reps K js H ds vs ∧ (∀ F, G.fns[f]? = some F → ds.length = F.ps.length) ∧ Go K (Rep K) js H (callF G n f ds M) Q
/-- the names that the module must leave to the builtins -/
def bltNames : List Str := ["len", "list", "tuple", "str", "repr", "ord", "int", "all", "any", "sum", "sorted", "max", "min", "dict", "set", "isinstance", "range", "bool"]
structure MdlOk (G : Mdl) (n : Nat) (P : Program) (w : World) (K : PySem.W.Frag) (mg : Str → Option Value) (base : Heap) : Prop where
  blt : ∀ x ∈ bltNames, mg x = none
  con : ∀ (g : Nat) (p : Str × D), G.con[g]? = some p → ∃ u v, mg p.1 = some u ∧ RelV v u ∧ ∀ js H, Rep K js H p.2 v
  fn : ∀ (f : Nat) (F : Fn), G.fns[f]? = some F → ∃ a fd, mg F.name = some (.ref a) ∧ PySem.W.keepIn K (.ref a) = true ∧ Binds K fd F.ps [] ∧ FnG P w K mg base n a fd F.ps (spG K G n f)
structure Okx (G : Mdl) (N : List Str) (c : Scope) (f : Str → Bool) (n : Nat) (X : Cx) : Prop where
  hN : X.N = N
  nd : N.Nodup
  sc : X.env.scope = c
  fn : X.fn = f
  calm : X.calm = true
  xe : X.xe = fun _ _ => False
  room : Room n X.A
  gd : X.A.guards = some []
  md : MdlOk G n X.prog X.w X.K X.mg X.base
section
variable {G : Mdl} {N : List Str} {c : Scope} {f : Str → Bool} {n : Nat} {X : Cx}
theorem Okx.u66 (k : Okx G N c f n X) : X.A.units + 66 < cLine := by have := k.room.un; omega
theorem Okx.gl (k : Okx G N c f n X) {x : Str} (h : glbB c x = true) : L2.Gl X x := by
  show X.env.scope.names.lookup x = _
  rw [k.sc]; exact glb_of h
theorem Okx.vis (k : Okx G N c f n X) {x : Str} (h : visB c x = true) : Vis X.env.scope x := by rw [k.sc]; exact vis_of h
theorem Okx.sto (k : Okx G N c f n X) {x : Str} (h : stoB c f x = true) : Loc X.env.scope x ∧ (X.fn x = true ∨ X.env.scope.names.lookup x = some .local) := by rw [k.sc, k.fn]; exact sto_of h
/-- a comprehension's block -/
theorem Okx.blk (k : Okx G N c f n X) (scope : Scope) (s : Shared) (H : Hp) (C : Addr) (cl : List (Str × Addr)) (fp : List Addr) :
    Okx G N (relS scope c) (fun x => scope.names.lookup x == some .cell) n (X.blk s H scope (compEnvC scope cl C X.env) fp) := by
  refine ⟨k.hN, k.nd, ?_, rfl, k.calm, rfl, k.room, k.gd, k.md⟩
  show relS scope X.env.scope = _
  rw [k.sc]
end
end Cp

/-! Expressions: what the compact run tells, the model's run gives. -/
namespace Cp
open PySem L2

/-! ### what is walked -/
def IsSrc (K : PySem.W.Frag) (js : List Addr) (H : Hp) (c : Src) (J : L2.It) : Prop := ∀ js' H' M', Ext js H js' H' → Tie K js' H' M' → ∀ i,
  (c.at_ M' i = some none → J.stop i H') ∧ ∀ d, c.at_ M' i = some (some d) → J.go i H' ∧ ∀ x H2, J.yld i H' x H2 → ∃ js2, Ext js' H' js2 H2 ∧ Tie K js2 H2 M' ∧ Rep K js2 H2 d x
def tI (K : PySem.W.Frag) (r : Ev → Mem → R (Src × Mem)) : TI := fun t H Q => ∃ js M s, Tie K js H M ∧ RepS K js H s t ∧ Go K (IsSrc K) js H (r s M) Q
def gG (K : PySem.W.Frag) (r : D → Ev → Mem → R (Ev × Mem)) : TG := fun v t H Q => ∃ js M s d, Tie K js H M ∧ RepS K js H s t ∧ Rep K js H d v ∧ Go K (RepS K) js H (r d s M) Q
theorem pi_weak {X : Cx} {tg e : Expr} {t t' : TI} (h : PI X tg e t) (w : ∀ s H Q, t' s H Q → t s H Q) : PI X tg e t' := ⟨fun pins s σ H Q I q => h.run pins s σ H Q I (w _ _ _ q)⟩
theorem pg_weak {X : Cx} {e : Expr} {t t' : TG} (h : PG X e t) (w : ∀ v s H Q, t' v s H Q → t v s H Q) : PG X e t' := ⟨fun pins s σ H v u Q I r q => h.run pins s σ H v u Q I r (w _ _ _ _ q)⟩
/-- a tuple, a list, a text -/
theorem pi_any {X : Cx} {tg e : Expr} {te : TE} (he : PE X e te) : PI X tg e (fun t H R => te t H fun x H1 => (∃ a xs, x = .ref a ∧ SqL X.K H1 a xs ∧ R (Itl X.K a) H1) ∨ (∃ a xs, x = .ref a ∧ SqT X.K H1 a xs ∧ R (Itt X.K a) H1) ∨
    ∃ z, x = .str z ∧ R (Its z) H1) := by
  refine ⟨fun pins s σ H R I h => thn (he.run pins s σ H _ I h) fun v s1 ⟨x, H1, I1, r1, q1⟩ => ?_⟩
  rcases q1 with ⟨a, xs, ex, hq, q⟩ | ⟨a, xs, ex, hq, q⟩ | ⟨z, ex, q⟩
  · subst ex
    cases r1
    obtain ⟨its, rv, pl, _⟩ := I1.list hq
    exact wpAny_pyIter_list pl.isList (pi_one (tk := s1.toks) I1 _ (turn_list a _) ⟨_, Heap.get?_push_size _ rfl, rfl, rfl⟩ q)
  · subst ex
    cases r1
    obtain ⟨its, rv, pl, _⟩ := I1.tuple hq
    exact wpAny_pyIter_tuple (show s1.heap.IsTuple a its.toArray from pl) (pi_one (tk := s1.toks) I1 _ (turn_tuple a _) ⟨_, Heap.get?_push_size _ rfl, rfl, rfl⟩ q)
  · subst ex
    obtain ⟨t, rfl⟩ := r1
    cases ha : z.cps.all (· < 128)
    · exact wpAny_pyIter_wide ha (pi_one (tk := s1.toks) I1 _ (turn_str _ z t "str_iterator" (.inr rfl)) ⟨_, Heap.get?_push_size _ rfl, rfl, rfl⟩ q)
    · exact wpAny_pyIter_ascii ha (pi_one (tk := s1.toks) I1 _ (turn_str _ z t "str_ascii_iterator" (.inl rfl)) ⟨_, Heap.get?_push_size _ rfl, rfl, rfl⟩ q)
section
variable {K : PySem.W.Frag} {js js' : List Addr} {H H' : Hp} {M M' : Mem}
theorem src_tup (T : Tie K js H M) {a : Addr} {xs : List D} {vs : List V} (h : SqT K H a vs) (r : Reps K js H xs vs) : IsSrc K js H (.its xs) (Itt K a) := by
  intro js' H' M' x1 T1 i
  have h1 := x1.sqt T h
  have r1 := r.ext T x1
  refine ⟨fun e => ⟨vs, h1, ?_⟩, fun d e => ?_⟩
  · have e' : xs[i]? = none := Option.some.inj e
    rw [← r.length]
    exact List.getElem?_eq_none_iff.mp e'
  · have e' : xs[i]? = some d := Option.some.inj e
    obtain ⟨v, hv, rv⟩ := r1.get e'
    refine ⟨⟨vs, v, h1, hv⟩, fun x H2 y => ?_⟩
    obtain ⟨rfl, y⟩ := y
    have := y vs h1
    rw [hv] at this
    cases this
    exact ⟨js', .refl, T1, rv⟩
theorem src_frz (T : Tie K js H M) {a : Addr} {xs : List D} {vs : List V} (h : FrzL K H a vs) (r : Reps K js H xs vs) : IsSrc K js H (.its xs) (Itl K a) := by
  intro js' H' M' x1 T1 i
  have h1 := (x1.frz T h).sq
  have r1 := r.ext T x1
  refine ⟨fun e => ⟨vs, h1, ?_⟩, fun d e => ?_⟩
  · have e' : xs[i]? = none := Option.some.inj e
    rw [← r.length]
    exact List.getElem?_eq_none_iff.mp e'
  · have e' : xs[i]? = some d := Option.some.inj e
    obtain ⟨v, hv, rv⟩ := r1.get e'
    refine ⟨⟨vs, v, h1, hv⟩, fun x H2 y => ?_⟩
    obtain ⟨rfl, y⟩ := y
    have := y vs h1
    rw [hv] at this
    cases this
    exact ⟨js', .refl, T1, rv⟩
theorem src_live {a : Addr} {n : Nat} (h : js[n]? = some a) : IsSrc K js H (.live n) (Itl K a) := by
  intro js' H' M' x1 T1 i
  have key : ∀ o, (Src.live n).at_ M' i = some o → ∃ xs vs, SqL K H' a vs ∧ Reps K js' H' xs vs ∧ xs[i]? = o := by
    intro o e
    have e : (match M'[n]? with | some (MO.lst xs) => some xs[i]? | _ => none) = some o := e
    cases e1 : M'[n]? with
    | none => rw [e1] at e; cases e
    | some u =>
      rw [e1] at e
      obtain ⟨b, u', e2, e3, e4⟩ := T1.at_ _ _ e1
      rw [x1.ix h] at e2
      cases e2
      cases e4 with
      | lst r => exact ⟨_, _, .inl (.inl e3), r, Option.some.inj e⟩
      | dct _ _ => cases e
  refine ⟨fun e => ?_, fun d e => ?_⟩
  · obtain ⟨xs, vs, h1, r1, e'⟩ := key none e
    refine ⟨vs, h1, ?_⟩
    rw [← r1.length]
    exact List.getElem?_eq_none_iff.mp e'
  · obtain ⟨xs, vs, h1, r1, e'⟩ := key (some d) e
    obtain ⟨v, hv, rv⟩ := r1.get e'
    refine ⟨⟨vs, v, h1, hv⟩, fun x H2 y => ?_⟩
    obtain ⟨rfl, y⟩ := y
    have := y vs h1
    rw [hv] at this
    cases this
    exact ⟨js', .refl, T1, rv⟩
theorem src_str (z : Str) : IsSrc K js H (.its (z.cps.toList.map fun c => .str ⟨#[c]⟩)) (Its z) := by
  intro js' H' M' x1 T1 i
  refine ⟨fun e => ?_, fun d e => ?_⟩
  · have e' : (z.cps.toList.map fun c => D.str ⟨#[c]⟩)[i]? = none := Option.some.inj e
    have := List.getElem?_eq_none_iff.mp e'
    rw [List.length_map, Array.length_toList] at this
    exact this
  · have e' : (z.cps.toList.map fun c => D.str ⟨#[c]⟩)[i]? = some d := Option.some.inj e
    rw [List.getElem?_map] at e'
    obtain ⟨c, hc, rfl⟩ := Option.map_eq_some_iff.mp e'
    rw [Array.getElem?_toList] at hc
    refine ⟨(Array.getElem?_eq_some_iff.mp hc).1, fun x H2 y => ?_⟩
    obtain ⟨rfl, c', hc', rfl⟩ := y
    rw [hc] at hc'
    cases hc'
    exact ⟨js', .refl, T1, .str _⟩
theorem src_rng (lo hi : Int) : IsSrc K js H (.its (rngD lo hi)) (Itr lo (hi - lo).toNat) := by
  intro js' H' M' x1 T1 i
  refine ⟨fun e => ?_, fun d e => ?_⟩
  · have e' : (rngD lo hi)[i]? = none := Option.some.inj e
    have := List.getElem?_eq_none_iff.mp e'
    unfold rngD at this
    rw [List.length_map, List.length_range] at this
    exact this
  · have e' : (rngD lo hi)[i]? = some d := Option.some.inj e
    unfold rngD at e'
    rw [List.getElem?_map] at e'
    obtain ⟨c, hc, rfl⟩ := Option.map_eq_some_iff.mp e'
    obtain ⟨h1, h2⟩ := List.getElem?_eq_some_iff.mp hc
    rw [List.getElem_range] at h2
    rw [List.length_range] at h1
    subst h2
    refine ⟨h1, fun x H2 y => ?_⟩
    obtain ⟨rfl, rfl⟩ := y
    exact ⟨js', .refl, T1, .int _⟩
end

/-! ### comprehensions -/
theorem bind_ok {α β : Type} {r : R α} {k : α → R β} {z : β} (h : r.bind k = .ok z) : ∃ w, r = .ok w ∧ k w = .ok z := by
  cases r with
  | ok w => exact ⟨w, rfl, h⟩
  | exn x N => cases h
  | bad => cases h
theorem of_ok {α β : Type} {o : Option α} {k : α → R β} {z : β} (h : R.of o k = .ok z) : ∃ w, o = some w ∧ k w = .ok z := by
  cases o with
  | some w => exact ⟨w, rfl, h⟩
  | none => cases h
theorem when_ok {β : Type} {c : Prop} [Decidable c] {k : R β} {z : β} (h : R.when c k = .ok z) : c ∧ k = .ok z := by
  unfold R.when at h
  split at h
  · rename_i hc; exact ⟨hc, h⟩
  · cases h
theorem wipe_at (s : St) : ∀ (vs : List Nat) (i : Nat), (L2.wipe s vs)[i]? = if i ∈ vs then (s[i]?).map (fun _ => none) else s[i]?
  | [], i => by rw [if_neg (by simp)]; rfl
  | v :: vs, i => by
    show ((L2.wipe s vs).set v none)[i]? = _
    by_cases h : v = i
    · subst h
      rw [if_pos (by simp), List.getElem?_set, if_pos rfl]
      have hl : (L2.wipe s vs).length = s.length := wipe_length _ _
      by_cases q : v < s.length
      · rw [if_pos (by rw [hl]; exact q), List.getElem?_eq_getElem q]; rfl
      · rw [if_neg (by rw [hl]; exact q), List.getElem?_eq_none (by omega)]; rfl
    · rw [List.getElem?_set_ne h, wipe_at s vs i]
      have : i ∈ v :: vs ↔ i ∈ vs := by rw [List.mem_cons]; exact ⟨fun z => z.elim (fun z => absurd z.symm h) id, .inr⟩
      by_cases q : i ∈ vs
      · rw [if_pos q, if_pos (this.mpr q)]
      · rw [if_neg q, if_neg fun z => q (this.mp z)]
theorem wipe_wipe (s : St) (vs : List Nat) : L2.wipe (L2.wipe s vs) vs = L2.wipe s vs := by
  refine List.ext_getElem? fun i => ?_
  rw [wipe_at, wipe_at]
  by_cases q : i ∈ vs
  · rw [if_pos q, if_pos q, Option.map_map]; rfl
  · rw [if_neg q, if_neg q]
theorem wipe_set (s : St) (vs : List Nat) {i : Nat} (h : i ∈ vs) (x : Option V) : L2.wipe (s.set i x) vs = L2.wipe s vs := by
  refine List.ext_getElem? fun j => ?_
  rw [wipe_at, wipe_at]
  by_cases e : i = j
  · subst e
    rw [if_pos h, if_pos h, List.getElem?_set, if_pos rfl]
    by_cases q : i < s.length
    · rw [if_pos q, List.getElem?_eq_getElem q]; rfl
    · rw [if_neg q, List.getElem?_eq_none (by omega)]
  · rw [List.getElem?_set_ne e]
theorem lc_run {K : PySem.W.Frag} {set : D → Ev → Mem → R (Ev × Mem)} {cond : Ev → Mem → R (Bool × Mem)} {elt : Ev → Mem → RD} {ri : Ev → Mem → R (Src × Mem)} {own : List Nat} {t : St} {H : Hp} {Q : VK}
    (h : tE K (fun s M => (ri s M).bind fun p => (compX p.1 set cond elt (wipeE s own) wf 0 p.2 []).bind fun q => newM q.2 (.lst q.1)) t H Q) :
    tLc (tI K ri) (fun v t H Q => gG K set v t H fun t2 H2 => L2.wipe t2 own = L2.wipe t own → Q t2 H2) (tT K cond) (tE K elt) own t H Q := by
  obtain ⟨js, M, s, T, S, g⟩ := h
  refine ⟨js, M, s, T, S, g.bind.mono ?_⟩
  rintro J H1 ⟨js1, M1, c, T1, x1, src, d, Mend, e1, fin⟩
  have S1 := S.ext T x1
  intro D hD
  refine ⟨fun i m H' => ∃ js' M' acc vs, Beside K js1 H1 D js' H' M' (.lst vs) ∧ Reps K js' H' acc vs ∧ (compX c set cond elt (wipeE s own) m i M' acc).bind (fun q => newM q.2 (.lst q.1)) = .ok (d, Mend),
    ⟨wf, js1, M1, [], [], Beside.start T1 hD trivial, .nil, e1⟩, ?_⟩
  rintro i m H' ⟨js', M', acc, vs, B, RA, e⟩
  obtain ⟨q, e2, e3⟩ := bind_ok e
  cases m with
  | zero => cases e2
  | succ m =>
    have e2 : R.of (c.at_ M' i) _ = .ok q := e2
    obtain ⟨o, ho, e2⟩ := of_ok e2
    cases o with
    | none =>
      cases e2
      cases e3
      obtain ⟨x, T'⟩ := B.join hD (.lst RA)
      refine .inl ⟨(src js' H' M' B.ext B.tie i).1 ho, fin _ H' (.ref D) x T' (.ref ?_)⟩
      rw [List.getElem?_append_right (by rw [B.tie.len]; exact Nat.le_refl _), B.tie.len, Nat.sub_self]
      rfl
    | some x =>
      obtain ⟨p, e4, e5⟩ := bind_ok e2
      obtain ⟨hgo, hy⟩ := (src js' H' M' B.ext B.tie i).2 x ho
      refine .inr ⟨hgo, fun H'' => ∃ js' M' acc vs, Beside K js1 H1 D js' H'' M' (.lst vs) ∧ Reps K js' H'' acc vs ∧ (compX c set cond elt (wipeE s own) m (i + 1) M' acc).bind (fun q => newM q.2 (.lst q.1)) = .ok (d, Mend),
        fun H'' w => ⟨m, Nat.lt_succ_self _, w⟩, fun v H2 y => ?_⟩
      obtain ⟨js2, x2, T2, r2⟩ := hy v H2 y
      have B2 := B.go x2 T2
      unfold turnC at e4
      obtain ⟨p1, f1, e4⟩ := bind_ok e4
      obtain ⟨q1, f2, e4⟩ := bind_ok e4
      refine ⟨js2, M', wipeE s own, x, T2, (S1.ext T1 B2.ext).wipe own, r2, p1.1, p1.2, f1, ?_⟩
      intro js3 H3 t3 x3 T3 S3 hw
      refine ⟨hw.trans (wipe_wipe _ _), js3, p1.2, p1.1, T3, S3, q1.1, q1.2, f2, ?_⟩
      intro js4 H4 b x4 T4 eb
      have eb : q1.1 = b := eb
      subst eb
      have B4 := (B2.go x3 T3).go x4 T4
      have RA4 := ((RA.ext B.tie x2).ext T2 x3).ext T3 x4
      cases hb : q1.1 with
      | false =>
        rw [hb] at e4
        cases e4
        rw [if_neg Bool.false_ne_true]
        exact ⟨js4, q1.2, acc, vs, B4, RA4, by rw [e5]; exact e3⟩
      | true =>
        rw [hb] at e4
        obtain ⟨r1, f3, e4⟩ := bind_ok e4
        obtain ⟨hlt, e4⟩ := when_ok e4
        cases e4
        rw [if_pos rfl]
        refine ⟨js4, q1.2, p1.1, T4, S3.ext T3 x4, r1.1, r1.2, f3, fun js5 H5 y5 x5 T5 r5 => ?_⟩
        have B5 := B4.go x5 T5
        have kp := Kp.side (js := js5) (K := K) (o1 := HO.lst (vs ++ [y5])) B5.at_ B5.plain
        refine ⟨vs, B5.at_, by rw [← RA.length]; exact hlt, js5, r1.2, acc ++ [r1.1], vs ++ [y5], B5.put hD trivial, (((RA4.ext T4 x5).append (.cons r5 .nil))).kp kp, by rw [e5]; exact e3⟩
end Cp

/-! By values, by parts: the readings that the walk asks, from the compact run. -/
namespace Cp
open PySem L2

theorem opr_weak {X : Cx} {f : Value → Value → Sem Value} {r r' : R2} (h : OpR X f r) (w : ∀ x y H Q, r' x y H Q → r x y H Q) : OpR X f r' :=
  fun pins s σ H x y v u Q I rx ry q => h pins s σ H x y v u Q I rx ry (w _ _ _ _ q)
theorem ixr_weak {X : Cx} {r r' : R2} (h : IxR X r) (w : ∀ x y H Q, r' x y H Q → r x y H Q) : IxR X r' :=
  fun a b pins s σ H x y v u Q I rx ry q => h a b pins s σ H x y v u Q I rx ry (w _ _ _ _ q)
theorem pe_bad {X : Cx} {e : Expr} {t : TE} (w : ∀ s H Q, ¬ t s H Q) : PE X e t := ⟨fun pins s σ H Q I q => absurd q (w _ _ _)⟩
theorem cmp_rd {X : Cx} (hu : X.A.units + 65 < cLine) (c : Cm) : OpR X (compareOp c.py) (rD2 X.K fun M d e => R.of (cmpD M c d e) fun k => .ok (.bl k, M)) :=
  opr_weak (op_cmp hu c) fun x y H Q ⟨js, M, d, e, T, r1, r2, g⟩ => let ⟨k, hk, g⟩ := g.of; ⟨js, M, d, e, k, T, r1, r2, hk, g.ok .refl T (.bl k)⟩
theorem idx_rd {X : Cx} (hu : X.A.units + 1 < cLine) : IxR X (rD2 X.K fun M d e => R.of (idxD M d e) fun r => .ok (r, M)) :=
  ixr_weak (ix_any hu) fun x y H Q ⟨js, M, d, e, T, r1, r2, g⟩ => let ⟨k, hk, g⟩ := g.of; ⟨js, M, d, e, k, T, r1, r2, hk, fun v rv => g.ok .refl T rv⟩
section
variable {K : PySem.W.Frag} {t : St} {H : Hp}
/-- what is read of a kind of thing -/
theorem ty_rep {js : List Addr} {M : Mem} (T : Tie K js H M) {d : D} {v : V} {u : String} (r : Rep K js H d v) (h : tyD M d = some u) : TyX K H v (.type u) := by
  cases r with
  | non => cases h; exact .base .non
  | bl b => cases h; exact .base (.bl b)
  | int i => cases h; exact .base (.int i)
  | str x => cases h; exact .base (.str x)
  | tup hs _ =>
    cases h
    rcases hs with (hs | ⟨o, hs⟩) | ⟨o, its, n, h1, h2, _⟩
    · exact .base (.tup hs)
    · exact .fTuple hs
    · exact .kTuple h1 h2
  | frl hs _ =>
    cases h
    rcases hs with ⟨o, hs⟩ | ⟨o, its, n, h1, h2, _⟩
    · exact .base (.frz hs)
    · exact .kList h1 h2
  | @ref n a hj =>
    have h : (match M[n]? with | some (MO.lst _) => some "list" | some (MO.dct _) => some "dict" | none => none) = some u := h
    cases e : M[n]? with
    | none => rw [e] at h; cases h
    | some o =>
      rw [e] at h
      obtain ⟨a', u', e1, e2, e3⟩ := T.at_ _ _ e
      rw [hj] at e1; cases e1
      cases e3 with
      | lst _ => cases h; exact .base (.lst e2)
      | dct _ _ => cases h; exact .base (.dK e2)
theorem rd_neg {ra : Ev → Mem → RD} {Q : VK} (h : tE K (fun s M => (ra s M).bind fun p => match p.1 with | .int i => .ok (.int (-i), p.2) | _ => .bad) t H Q) : tUn (rU fun i => .int (-i)) (tE K ra) t H Q := by
  have := one_part (k := fun d M => match d with | .int i => .ok (.int (-i), M) | _ => .bad) h
  obtain ⟨js, M, s, T, S, g⟩ := this
  refine ⟨js, M, s, T, S, g.mono ?_⟩
  rintro x H1 ⟨js1, M1, d, T1, r1, g1⟩
  cases r1 with
  | int i => exact ⟨i, rfl, g1.ok .refl T1 (.int _)⟩
  | _ => exact g1.bad
theorem rd_not {ra : Ev → Mem → RD} {Q : VK} (h : tE K (fun s M => (ra s M).bind fun p => match p.1 with | .bl b => .ok (.bl (!b), p.2) | _ => .bad) t H Q) : tNotV (tE K ra) t H Q := by
  have := one_part (k := fun d M => match d with | .bl b => .ok (.bl (!b), M) | _ => .bad) h
  obtain ⟨js, M, s, T, S, g⟩ := this
  refine ⟨js, M, s, T, S, g.mono ?_⟩
  rintro x H1 ⟨js1, M1, d, T1, r1, g1⟩
  cases r1 with
  | bl i => exact ⟨i, rfl, g1.ok .refl T1 (.bl _)⟩
  | _ => exact g1.bad
theorem rd_chain {ra rb rc : Ev → Mem → RD} {c1 c2 : Cm} {Q : VK} (h : tE K (fun s M => (ra s M).bind fun p => (rb s p.2).bind fun q => R.of (cmpD q.2 c1 p.1 q.1) fun k => match k with
    | true => (rc s q.2).bind fun r => R.of (cmpD r.2 c2 q.1 r.1) fun k => .ok (.bl k, r.2)
    | false => .ok (.bl false, q.2)) t H Q) :
    tChain (rC2 K c1) (rC2 K c2) (tE K ra) (tE K rb) (tE K rc) t H Q := by
  obtain ⟨js, M, s, T, S, g⟩ := h
  refine ⟨js, M, s, T, S, g.bind.mono ?_⟩
  rintro x H1 ⟨js1, M1, d, T1, x1, r1, g1⟩
  refine ⟨js1, M1, s, T1, S.ext T x1, g1.bind.mono ?_⟩
  rintro y H2 ⟨js2, M2, e, T2, x2, r2, g2⟩
  obtain ⟨k, hk, g2⟩ := g2.of
  refine ⟨js2, M2, d, e, k, T2, r1.ext T1 x2, r2, hk, k, rfl, ?_⟩
  cases k with
  | false => exact g2.ok .refl T2 (.bl false)
  | true =>
    refine ⟨js2, M2, s, T2, (S.ext T x1).ext T1 x2, g2.bind.mono ?_⟩
    rintro z H3 ⟨js3, M3, f, T3, x3, r3, g3⟩
    obtain ⟨k, hk, g3⟩ := g3.of
    exact ⟨js3, M3, e, f, k, T3, r2.ext T2 x3, r3, hk, g3.ok .refl T3 (.bl k)⟩
theorem rd_ite {rc : Ev → Mem → R (Bool × Mem)} {ra rb : Ev → Mem → RD} {Q : VK} (h : tE K (fun s M => (rc s M).bind fun p => match p.1 with | true => ra s p.2 | false => rb s p.2) t H Q) : tIf (tT K rc) (tE K ra) (tE K rb) t H Q := by
  obtain ⟨js, M, s, T, S, g⟩ := h
  refine ⟨js, M, s, T, S, g.bind.mono ?_⟩
  rintro x H1 ⟨js1, M1, d, T1, x1, r1, g1⟩
  have r1 : d = x := r1
  subst r1
  cases d with
  | true => exact ⟨js1, M1, s, T1, S.ext T x1, g1⟩
  | false => exact ⟨js1, M1, s, T1, S.ext T x1, g1⟩
theorem rd_tup {ra : Ev → Mem → R (List D × Mem)} {Q : VK} (h : tE K (fun s M => (ra s M).bind fun p => R.when (p.1.length ≤ sizeLine) (.ok (.tup p.1, p.2))) t H Q) : tTup (tA K ra) t H Q := by
  obtain ⟨js, M, s, T, S, g⟩ := h
  refine ⟨js, M, s, T, S, g.bind.mono ?_⟩
  rintro x H1 ⟨js1, M1, d, T1, x1, r1, g1⟩
  obtain ⟨hl, g1⟩ := g1.when
  exact ⟨by rw [← r1.length]; exact hl, g1.newT T1 r1⟩
theorem rd_lst {ra : Ev → Mem → R (List D × Mem)} {Q : VK} (h : tE K (fun s M => (ra s M).bind fun p => R.when (p.1.length ≤ sizeLine) (newM p.2 (.lst p.1))) t H Q) : tLst (tA K ra) t H Q := by
  obtain ⟨js, M, s, T, S, g⟩ := h
  refine ⟨js, M, s, T, S, g.bind.mono ?_⟩
  rintro x H1 ⟨js1, M1, d, T1, x1, r1, g1⟩
  obtain ⟨hl, g1⟩ := g1.when
  exact ⟨by rw [← r1.length]; exact hl, g1.new T1 (.lst r1)⟩
theorem rd_rev {ra : Ev → Mem → RD} {Q : VK} (h : tE K (fun s M => (ra s M).bind fun p => revD p.2 p.1) t H Q) : tRev K (tE K ra) t H Q := by
  have := one_part (k := fun d M => revD M d) h
  obtain ⟨js, M, s, T, S, g⟩ := this
  refine ⟨js, M, s, T, S, g.mono ?_⟩
  rintro x H1 ⟨js1, M1, d, T1, r1, g1⟩
  cases d with
  | tup xs =>
    cases r1 with
    | tup hs hr => exact .inr ⟨_, _, rfl, hs, Go.newT T1 g1 hr.reverse⟩
  | ref n =>
    cases e : M1[n]? with
    | none =>
      have g1 : Go K (Rep K) js1 H1 (match M1[n]? with | some (.lst xs) => newM M1 (.lst xs.reverse) | _ => .bad) Q := g1
      rw [e] at g1; exact g1.bad
    | some o =>
      have g1 : Go K (Rep K) js1 H1 (match M1[n]? with | some (.lst xs) => newM M1 (.lst xs.reverse) | _ => .bad) Q := g1
      rw [e] at g1
      obtain ⟨a, u, rfl, hj, h1, o1⟩ := r1.refH T1 e
      cases o1 with
      | lst hr => exact .inl ⟨a, _, rfl, .inl (.inl h1), g1.new T1 (.lst hr.reverse)⟩
      | dct _ _ => exact g1.bad
  | _ => exact g1.bad
theorem rd_slc {ra : Ev → Mem → RD} {rl rh : Ev → Mem → R (Option Int × Mem)} {Q : VK} (h : tE K (fun s M => (ra s M).bind fun p => (rl s p.2).bind fun q => (rh s q.2).bind fun r => slcD r.2 p.1 q.1 r.1) t H Q) :
    L2.tSl (rSl2 K) (tE K ra) (tO K rl) (tO K rh) t H Q := by
  obtain ⟨js, M, s, T, S, g⟩ := h
  refine ⟨js, M, s, T, S, g.bind.mono ?_⟩
  rintro x H1 ⟨js1, M1, d, T1, x1, r1, g1⟩
  refine ⟨js1, M1, s, T1, S.ext T x1, g1.bind.mono ?_⟩
  rintro lo H2 ⟨js2, M2, e, T2, x2, r2, g2⟩
  have r2 : e = lo := r2
  subst r2
  refine ⟨js2, M2, s, T2, (S.ext T x1).ext T1 x2, g2.bind.mono ?_⟩
  rintro hi H3 ⟨js3, M3, f, T3, x3, r3, g3⟩
  have r3 : f = hi := r3
  subst r3
  exact ⟨js3, M3, d, T3, (r1.ext T1 x2).ext T2 x3, g3⟩
theorem rd_arg {ra : Ev → Mem → R (List D × Mem)} {f : Mem → List D → RD} {Q : VK} (h : tE K (fun s M => (ra s M).bind fun p => f p.2 p.1) t H Q) :
    tA K ra t H fun vs H1 => ∃ js M ds, Tie K js H1 M ∧ Reps K js H1 ds vs ∧ Go K (Rep K) js H1 (f M ds) Q := by
  obtain ⟨js, M, s, T, S, g⟩ := h
  refine ⟨js, M, s, T, S, g.bind.mono ?_⟩
  rintro x H1 ⟨js1, M1, d, T1, x1, r1, g1⟩
  exact ⟨js1, M1, d, T1, r1, g1⟩
theorem rd_isi {ra : Ev → Mem → RD} {ty : String} {Q : VK} (h : tE K (fun s M => (ra s M).bind fun p => R.of (tyD p.2 p.1) fun u => R.of (L2.kitB u ty) fun k => .ok (.bl k, p.2)) t H Q) :
    tCB (rIsi K) (tCons (tE K ra) (tCons (tC (.ty ty)) tNil)) t H Q := by
  have := one_part (k := fun d M => R.of (tyD M d) fun u => R.of (L2.kitB u ty) fun k => .ok (.bl k, M)) h
  obtain ⟨js, M, s, T, S, g⟩ := this
  refine ⟨js, M, s, T, S, g.mono ?_⟩
  rintro x H1 ⟨js1, M1, d, T1, r1, g1⟩
  obtain ⟨u, hu, g1⟩ := g1.of
  obtain ⟨k, hk, g1⟩ := g1.of
  exact ⟨x, .ty ty, .type u, .type ty, k, rfl, .ty ty, ty_rep T1 r1 hu, kit_ty hk, g1.ok .refl T1 (.bl k)⟩
theorem tyM_rep {js : List Addr} {M : Mem} (T : Tie K js H M) {d : D} {v : V} {m : Me} (r : Rep K js H d v) (h : tyM m M d = true) :
    (m.ofS = true ∧ tyV K "str" v H) ∨ (m.ofL = true ∧ tyV K "list" v H) ∨ (m.ofK = true ∧ tyV K "dict" v H) := by
  cases r with
  | str x => exact .inl ⟨h, rfl⟩
  | @ref n a hj =>
    have h : (match M[n]? with | some (MO.lst _) => m.ofL | some (MO.dct _) => m.ofK | _ => false) = true := h
    cases e : M[n]? with
    | none => rw [e] at h; cases h
    | some o =>
      rw [e] at h
      obtain ⟨a', u', e1, e2, e3⟩ := T.at_ _ _ e
      rw [hj] at e1; cases e1
      cases e3 with
      | lst _ => exact .inr (.inl ⟨h, .inl ⟨rfl, _, .inl (.inl e2)⟩⟩)
      | dct _ _ => exact .inr (.inr ⟨h, .inr (.inr (.inl ⟨rfl, .inl ⟨_, e2⟩⟩))⟩)
  | _ => exact absurd h Bool.false_ne_true
theorem rd_meth {ro : Ev → Mem → RD} {ra : Ev → Mem → R (List D × Mem)} {m : Me} {f : Mem → D → List D → RD} {T : String} {Q : VK}
    (w : ∀ v H, (m.ofS = true ∧ tyV K "str" v H) ∨ (m.ofL = true ∧ tyV K "list" v H) ∨ (m.ofK = true ∧ tyV K "dict" v H) → tyV K T v H)
    (h : tE K (fun s M => (ro s M).bind fun p => R.when (tyM m p.2 p.1 = true) ((ra s p.2).bind fun q => f q.2 p.1 q.1)) t H Q) :
    tBM K T (rMe K f) (tE K ro) (tA K ra) t H Q := by
  obtain ⟨js, M, s, T, S, g⟩ := h
  refine ⟨js, M, s, T, S, g.bind.mono ?_⟩
  rintro x H1 ⟨js1, M1, d, T1, x1, r1, g1⟩
  obtain ⟨hk, g1⟩ := g1.when
  refine ⟨w x H1 (tyM_rep T1 r1 hk), js1, M1, s, T1, S.ext T x1, g1.bind.mono ?_⟩
  rintro ys H2 ⟨js2, M2, e, T2, x2, r2, g2⟩
  exact ⟨js2, M2, d, e, T2, r1.ext T1 x2, r2, g2⟩
theorem rd_meth0 {ro : Ev → Mem → RD} {m : Me} {f : Mem → D → List D → RD} {T : String} {Q : VK}
    (w : ∀ v H, (m.ofS = true ∧ tyV K "str" v H) ∨ (m.ofL = true ∧ tyV K "list" v H) ∨ (m.ofK = true ∧ tyV K "dict" v H) → tyV K T v H)
    (h : tE K (fun s M => (ro s M).bind fun p => R.when (tyM m p.2 p.1 = true) (f p.2 p.1 [])) t H Q) :
    tBM0 K T (rMe K f) (tE K ro) t H Q := by
  obtain ⟨js, M, s, T, S, g⟩ := h
  refine ⟨js, M, s, T, S, g.bind.mono ?_⟩
  rintro x H1 ⟨js1, M1, d, T1, x1, r1, g1⟩
  obtain ⟨hk, g1⟩ := g1.when
  exact ⟨w x H1 (tyM_rep T1 r1 hk), js1, M1, d, [], T1, r1, .nil, g1⟩
theorem reps_rg {js : List Addr} (a b : Int) : Reps K js H (rngD a b) (rgV a b) := by
  have : rngD a b = ((List.range (b - a).toNat).map fun i => a + (i : Nat)).map D.int := by unfold rngD; rw [List.map_map]; rfl
  rw [this]
  have : rgV a b = ((List.range (b - a).toNat).map fun i => a + (i : Nat)).map V.int := by unfold rgV; rw [List.map_map]; rfl
  rw [this]
  exact Reps.of_ints _
theorem rgOk_of {a b : Int} (h : rngOk2 a b = true) : RgOk a b := by
  unfold rngOk2 rngOk at h
  simp only [Bool.and_eq_true, decide_eq_true_eq] at h
  exact ⟨h.1.1.1.1, h.1.1.1.2, h.1.1.2, h.1.2, h.2⟩
theorem rd_trg {ra : Ev → Mem → RD} {Q : VK} (h : tE K (fun s M => (ra s M).bind fun p => match p.1 with | .int n => R.when (rngOk2 0 n = true) (.ok (.tup (rngD 0 n), p.2)) | _ => .bad) t H Q) :
    tTupRg (tRg1 (tE K ra)) t H Q := by
  have := one_part (k := fun d M => match d with | .int n => R.when (rngOk2 0 n = true) (.ok (.tup (rngD 0 n), M)) | _ => .bad) h
  obtain ⟨js, M, s, T, S, g⟩ := this
  refine ⟨js, M, s, T, S, g.mono ?_⟩
  rintro x H1 ⟨js1, M1, d, T1, r1, g1⟩
  cases r1 with
  | int i =>
    obtain ⟨hk, g1⟩ := Go.when g1
    exact ⟨i, rfl, rgOk_of hk, Go.newT T1 g1 (reps_rg 0 i)⟩
  | _ => exact g1.bad
theorem rd_lrg {ra : Ev → Mem → RD} {Q : VK} (h : tE K (fun s M => (ra s M).bind fun p => match p.1 with | .int n => R.when (rngOk2 0 n = true) (newM p.2 (.lst (rngD 0 n))) | _ => .bad) t H Q) :
    tLstRg (tRg1 (tE K ra)) t H Q := by
  have := one_part (k := fun d M => match d with | .int n => R.when (rngOk2 0 n = true) (newM M (.lst (rngD 0 n))) | _ => .bad) h
  obtain ⟨js, M, s, T, S, g⟩ := this
  refine ⟨js, M, s, T, S, g.mono ?_⟩
  rintro x H1 ⟨js1, M1, d, T1, r1, g1⟩
  cases r1 with
  | int i =>
    obtain ⟨hk, g1⟩ := Go.when g1
    exact ⟨i, rfl, rgOk_of hk, Go.new T1 g1 (.lst (reps_rg 0 i))⟩
  | _ => exact g1.bad
theorem rd_cons {ra : Ev → Mem → RD} {rs : Ev → Mem → R (List D × Mem)} {Q : List V → Hp → Prop} (h : tA K (fun s M => (ra s M).bind fun p => (rs s p.2).bind fun q => .ok (p.1 :: q.1, q.2)) t H Q) : tCons (tE K ra) (tA K rs) t H Q := by
  obtain ⟨js, M, s, T, S, g⟩ := h
  refine ⟨js, M, s, T, S, g.bind.mono ?_⟩
  rintro x H1 ⟨js1, M1, d, T1, x1, r1, g1⟩
  refine ⟨js1, M1, s, T1, S.ext T x1, g1.bind.mono ?_⟩
  rintro xs H2 ⟨js2, M2, e, T2, x2, r2, g2⟩
  exact g2.ok .refl T2 (.cons (r1.ext T1 x2) r2)
theorem rd_nil {Q : List V → Hp → Prop} (h : tA K (fun _ M => .ok ([], M)) t H Q) : tNil t H Q := by
  obtain ⟨js, M, s, T, S, g⟩ := h
  exact g.ok .refl T .nil
/-- and, or as values -/
theorem rd_one {ra : Ev → Mem → RD} {c : Bool} {Q : VK} (h : tE K (fun s M => (ra s M).bind fun p => match p.1 with | .bl b => if b = c then .ok (.bl c, p.2) else .ok (.bl b, p.2) | _ => .bad) t H Q) : tE K ra t H Q := by
  have := one_part (k := fun d M => match d with | .bl b => if b = c then .ok (.bl c, M) else .ok (.bl b, M) | _ => .bad) h
  obtain ⟨js, M, s, T, S, g⟩ := this
  refine ⟨js, M, s, T, S, g.mono ?_⟩
  rintro x H1 ⟨js1, M1, d, T1, r1, g1⟩
  cases r1 with
  | bl b =>
    have g1 : Go K (Rep K) js1 H1 (if b = c then .ok (.bl c, M1) else .ok (.bl b, M1)) Q := g1
    split at g1
    · rename_i e; subst e; exact g1.ok .refl T1 (.bl _)
    · exact g1.ok .refl T1 (.bl _)
  | _ => exact g1.bad
theorem rd_and {ra rb : Ev → Mem → RD} {Q : VK} (h : tE K (fun s M => (ra s M).bind fun p => match p.1 with | .bl b => if b = true then rb s p.2 else .ok (.bl b, p.2) | _ => .bad) t H Q) : tAndV (tE K ra) (tE K rb) t H Q := by
  obtain ⟨js, M, s, T, S, g⟩ := h
  refine ⟨js, M, s, T, S, g.bind.mono ?_⟩
  rintro x H1 ⟨js1, M1, d, T1, x1, r1, g1⟩
  cases r1 with
  | bl b =>
    refine ⟨b, rfl, ?_⟩
    cases b with
    | true => exact ⟨js1, M1, s, T1, S.ext T x1, g1⟩
    | false => exact Go.ok g1 .refl T1 (.bl _)
  | _ => exact g1.bad
theorem rd_or {ra rb : Ev → Mem → RD} {Q : VK} (h : tE K (fun s M => (ra s M).bind fun p => match p.1 with | .bl b => if b = false then rb s p.2 else .ok (.bl b, p.2) | _ => .bad) t H Q) : tOrV (tE K ra) (tE K rb) t H Q := by
  obtain ⟨js, M, s, T, S, g⟩ := h
  refine ⟨js, M, s, T, S, g.bind.mono ?_⟩
  rintro x H1 ⟨js1, M1, d, T1, x1, r1, g1⟩
  cases r1 with
  | bl b =>
    refine ⟨b, rfl, ?_⟩
    cases b with
    | true => exact Go.ok g1 .refl T1 (.bl _)
    | false => exact ⟨js1, M1, s, T1, S.ext T x1, g1⟩
  | _ => exact g1.bad
theorem rd_part {ra : Ev → Mem → RD} {Q : Option Int → Hp → Prop} (h : tO K (fun s M => (ra s M).bind fun p => match p.1 with | .int i => .ok (some i, p.2) | _ => .bad) t H Q) : tPart (tE K ra) t H Q := by
  obtain ⟨js, M, s, T, S, g⟩ := h
  refine ⟨js, M, s, T, S, g.bind.mono ?_⟩
  rintro x H1 ⟨js1, M1, d, T1, x1, r1, g1⟩
  cases r1 with
  | int b => exact ⟨b, rfl, g1.ok .refl T1 rfl⟩
  | _ => exact g1.bad
theorem rd_nopart {Q : Option Int → Hp → Prop} (h : tO K (fun _ M => .ok (none, M)) t H Q) : tNoPart t H Q := by
  obtain ⟨js, M, s, T, S, g⟩ := h
  exact g.ok .refl T rfl
/-- tests -/
theorem rd_tnot {ra : Ev → Mem → R (Bool × Mem)} {Q : Bool → Hp → Prop} (h : tT K (fun s M => (ra s M).bind fun p => .ok (!p.1, p.2)) t H Q) : tNot (tT K ra) t H Q := by
  obtain ⟨js, M, s, T, S, g⟩ := h
  refine ⟨js, M, s, T, S, g.bind.mono ?_⟩
  rintro x H1 ⟨js1, M1, d, T1, x1, r1, g1⟩
  have r1 : d = x := r1
  subst r1
  exact g1.ok .refl T1 rfl
theorem rd_t1 {ra : Ev → Mem → R (Bool × Mem)} {c : Bool} {Q : Bool → Hp → Prop} (h : tT K (fun s M => (ra s M).bind fun p => if p.1 = c then .ok (c, p.2) else .ok (p.1, p.2)) t H Q) : tT K ra t H Q := by
  obtain ⟨js, M, s, T, S, g⟩ := h
  refine ⟨js, M, s, T, S, g.bind.mono ?_⟩
  rintro x H1 ⟨js1, M1, d, T1, x1, r1, g1⟩
  have r1 : d = x := r1
  subst r1
  have g1 : Go K EqP js1 H1 (if d = c then .ok (c, M1) else .ok (d, M1)) Q := g1
  split at g1
  · rename_i e; subst e; exact g1.ok .refl T1 rfl
  · exact g1.ok .refl T1 rfl
theorem rd_tand {ra rb : Ev → Mem → R (Bool × Mem)} {Q : Bool → Hp → Prop} (h : tT K (fun s M => (ra s M).bind fun p => if p.1 = true then rb s p.2 else .ok (p.1, p.2)) t H Q) : tAnd (tT K ra) (tT K rb) t H Q := by
  obtain ⟨js, M, s, T, S, g⟩ := h
  refine ⟨js, M, s, T, S, g.bind.mono ?_⟩
  rintro x H1 ⟨js1, M1, d, T1, x1, r1, g1⟩
  have r1 : d = x := r1
  subst r1
  cases d with
  | true => exact ⟨js1, M1, s, T1, S.ext T x1, g1⟩
  | false => exact Go.ok g1 .refl T1 rfl
theorem rd_tor {ra rb : Ev → Mem → R (Bool × Mem)} {Q : Bool → Hp → Prop} (h : tT K (fun s M => (ra s M).bind fun p => if p.1 = false then rb s p.2 else .ok (p.1, p.2)) t H Q) : tOr (tT K ra) (tT K rb) t H Q := by
  obtain ⟨js, M, s, T, S, g⟩ := h
  refine ⟨js, M, s, T, S, g.bind.mono ?_⟩
  rintro x H1 ⟨js1, M1, d, T1, x1, r1, g1⟩
  have r1 : d = x := r1
  subst r1
  cases d with
  | true => exact Go.ok g1 .refl T1 rfl
  | false => exact ⟨js1, M1, s, T1, S.ext T x1, g1⟩
theorem rd_truth {ra : Ev → Mem → RD} {Q : Bool → Hp → Prop} (h : tT K (fun s M => (ra s M).bind fun p => R.of (truth p.2 p.1) fun b => .ok (b, p.2)) t H Q) :
    tE K ra t H fun x H1 => ∃ js M d b, Tie K js H1 M ∧ Rep K js H1 d x ∧ truth M d = some b ∧ Q b H1 := by
  obtain ⟨js, M, s, T, S, g⟩ := h
  refine ⟨js, M, s, T, S, g.bind.mono ?_⟩
  rintro x H1 ⟨js1, M1, d, T1, x1, r1, g1⟩
  obtain ⟨b, hb, g1⟩ := g1.of
  exact ⟨js1, M1, d, b, T1, r1, hb, g1.ok .refl T1 rfl⟩
/-- a test whose value is a bool for sure -/
theorem rd_test {ra : Ev → Mem → RD} {ta : TE} {Q : Bool → Hp → Prop} (w : ∀ Q', tE K ra t H Q' → ta t H Q') (hb : ∀ s M d M', ra s M = .ok (d, M') → ∃ b, d = .bl b)
    (h : tT K (fun s M => (ra s M).bind fun p => R.of (truth p.2 p.1) fun b => .ok (b, p.2)) t H Q) : tTest ta t H Q := by
  refine w _ ?_
  obtain ⟨js, M, s, T, S, g⟩ := h
  refine ⟨js, M, s, T, S, ?_⟩
  obtain ⟨c, M2, e, f⟩ := g
  obtain ⟨p, e1, e2⟩ := bind_ok e
  obtain ⟨k, hk⟩ := hb s M p.1 p.2 e1
  obtain ⟨b, e3, e4⟩ := of_ok e2
  rw [hk] at e3
  cases e3
  cases e4
  refine ⟨p.1, p.2, e1, fun js' H' x x1 T1 r1 => ?_⟩
  rw [hk] at r1
  cases r1
  exact ⟨c, rfl, f js' H' c x1 T1 rfl⟩
end

/-! ### dict displays -/
theorem put_rep {K : PySem.W.Frag} {js : List Addr} {H : Hp} {k : Key} {d : D} {v : V} (r : Rep K js H d v) {kvs : List (Key × D)} {ws : List (Key × V)} (e : kvs.map (·.1) = ws.map (·.1)) (q : Reps K js H (kvs.map (·.2)) (ws.map (·.2))) :
    (putD kvs k d).map (·.1) = (putK ws k v).map (·.1) ∧ Reps K js H ((putD kvs k d).map (·.2)) ((putK ws k v).map (·.2)) := by
  have hany : ∀ (kvs : List (Key × D)) (ws : List (Key × V)), kvs.map (·.1) = ws.map (·.1) → (kvs.any fun kv => decide (kv.1 = k)) = ws.any fun kv => decide (kv.1 = k) := by
    intro kvs ws e
    have h1 : (kvs.any fun kv => decide (kv.1 = k)) = (kvs.map (·.1)).any fun a => decide (a = k) := by rw [List.any_map]; rfl
    have h2 : (ws.any fun kv => decide (kv.1 = k)) = (ws.map (·.1)).any fun a => decide (a = k) := by rw [List.any_map]; rfl
    rw [h1, h2, e]
  have hmap : ∀ (kvs : List (Key × D)) (ws : List (Key × V)), kvs.map (·.1) = ws.map (·.1) → Reps K js H (kvs.map (·.2)) (ws.map (·.2)) →
      (kvs.map fun kv => if kv.1 = k then (kv.1, d) else kv).map (·.1) = (ws.map fun kv => if kv.1 = k then (kv.1, v) else kv).map (·.1) ∧
      Reps K js H ((kvs.map fun kv => if kv.1 = k then (kv.1, d) else kv).map (·.2)) ((ws.map fun kv => if kv.1 = k then (kv.1, v) else kv).map (·.2)) := by
    intro kvs
    induction kvs with
    | nil =>
      intro ws e q
      cases ws with
      | nil => exact ⟨rfl, .nil⟩
      | cons _ _ => cases e
    | cons a kvs ih =>
      intro ws e q
      cases ws with
      | nil => cases e
      | cons b ws =>
        rw [List.map_cons, List.map_cons] at e q
        injection e with e1 e2
        cases q with
        | cons q1 q2 =>
          obtain ⟨i1, i2⟩ := ih ws e2 q2
          have e1' : a.1 = b.1 := e1
          by_cases hk : a.1 = k
          · have hb : b.1 = k := by rw [← e1']; exact hk
            simp only [List.map_cons, if_pos hk, if_pos hb]
            exact ⟨by rw [i1, hk, hb], .cons r i2⟩
          · have hb : ¬ b.1 = k := by rw [← e1']; exact hk
            simp only [List.map_cons, if_neg hk, if_neg hb]
            exact ⟨by rw [i1, e1'], .cons q1 i2⟩
  unfold putD putK
  rw [hany kvs ws e]
  by_cases hc : (ws.any fun kv => decide (kv.1 = k)) = true
  · rw [if_pos hc, if_pos hc]
    exact hmap kvs ws e q
  · rw [if_neg hc, if_neg hc]
    simp only [List.map_append, List.map_cons, List.map_nil]
    exact ⟨by rw [e], q.append (.cons r .nil)⟩
theorem merge_rep {K : PySem.W.Frag} {js : List Addr} {H : Hp} : ∀ {more : List (Key × D)} {mv : List (Key × V)} {kvs : List (Key × D)} {ws : List (Key × V)}, more.map (·.1) = mv.map (·.1) → Reps K js H (more.map (·.2)) (mv.map (·.2)) →
    kvs.map (·.1) = ws.map (·.1) → Reps K js H (kvs.map (·.2)) (ws.map (·.2)) → RepO K js H (.dct (mergeD kvs more)) (.dK (mergeK ws mv))
  | [], [], _, _, _, _, e, q => .dct e q
  | [], _ :: _, _, _, e, _, _, _ => by cases e
  | _ :: _, [], _, _, e, _, _, _ => by cases e
  | (k, d) :: more, (k', v) :: mv, kvs, ws, e, q, e2, q2 => by
    rw [List.map_cons, List.map_cons] at e q
    injection e with e1 e3
    have e1' : k = k' := e1
    subst e1'
    cases q with
    | cons q1 q3 =>
      obtain ⟨i1, i2⟩ := put_rep (k := k) q1 e2 q2
      exact merge_rep (kvs := putD kvs k d) (ws := putK ws k v) e3 q3 i1 i2
theorem pairs_rep {K : PySem.W.Frag} {js : List Addr} {H : Hp} : ∀ {ks ds : List D} {kvs : List (Key × D)} {ps : List (V × V)}, pairsD ks ds = some kvs → Reps K js H ks (ps.map (·.1)) → Reps K js H ds (ps.map (·.2)) →
    ∃ ws : List (Key × V), ps = ws.map (fun kv => (kV kv.1, kv.2)) ∧ kvs.map (·.1) = ws.map (·.1) ∧ Reps K js H (kvs.map (·.2)) (ws.map (·.2))
  | [], [], kvs, ps, e, r1, r2 => by
    cases e
    cases ps with
    | nil => exact ⟨[], rfl, rfl, .nil⟩
    | cons _ _ => cases r1
  | [], _ :: _, _, _, e, _, _ => by cases e
  | _ :: _, [], _, _, e, _, _ => by cases e
  | k :: ks, d :: ds, kvs, ps, e, r1, r2 => by
    have e : ((keyD k).bind fun k => (pairsD ks ds).map fun r => (k, d) :: r) = some kvs := e
    obtain ⟨k', hk, e⟩ := Option.bind_eq_some_iff.mp e
    obtain ⟨r, hr, e⟩ := Option.map_eq_some_iff.mp e
    subst e
    cases ps with
    | nil => cases r1
    | cons p ps =>
      cases r1 with
      | cons a1 b1 =>
        cases r2 with
        | cons a2 b2 =>
          obtain ⟨ws, h1, h2, h3⟩ := pairs_rep hr b1 b2
          refine ⟨(k', p.2) :: ws, ?_, ?_, .cons a2 h3⟩
          · rw [List.map_cons, ← h1, ← key_rep a1 hk]
          · rw [List.map_cons, List.map_cons, h2]
def RepPs (K : PySem.W.Frag) (js : List Addr) (H : Hp) (a : List (D × D)) (b : List (V × V)) : Prop := Reps K js H (a.map (·.1)) (b.map (·.1)) ∧ Reps K js H (a.map (·.2)) (b.map (·.2))
theorem mergeD_nil (kvs : List (Key × D)) : mergeD kvs [] = kvs := rfl
theorem pairsD_len : ∀ {ks ds : List D} {kvs : List (Key × D)}, pairsD ks ds = some kvs → ks.length = kvs.length
  | [], [], _, e => by cases e; rfl
  | [], _ :: _, _, e => by cases e
  | _ :: _, [], _, e => by cases e
  | k :: ks, d :: ds, kvs, e => by
    have e : ((keyD k).bind fun k => (pairsD ks ds).map fun r => (k, d) :: r) = some kvs := e
    obtain ⟨k', hk, e⟩ := Option.bind_eq_some_iff.mp e
    obtain ⟨r, hr, e⟩ := Option.map_eq_some_iff.mp e
    subst e
    rw [List.length_cons, List.length_cons, pairsD_len hr]
theorem rd_dic {K : PySem.W.Frag} {t : St} {H : Hp} {rp : Ev → Mem → R (List (D × D) × Mem)} {trs : List (TE × TE)} {Q : VK}
    (hp : ∀ {js M s H Q'}, Tie K js H M → RepS K js H s t → Go K (RepPs K) js H (rp s M) Q' → tPairs trs t H Q')
    (h : tE K (fun s M => (rp s M).bind fun p => R.of (pairsD (p.1.map (·.1)) (p.1.map (·.2))) fun kvs => R.when (kvs.length ≤ 15) (newM p.2 (.dct (mergeD [] kvs)))) t H Q) : tDisp trs t H Q := by
  obtain ⟨js, M, s, T, S, c, M2, e, f⟩ := h
  intro p hn
  have B := Beside.start (o := HO.dK []) T hn trivial
  obtain ⟨a, e1, e⟩ := bind_ok e
  obtain ⟨kvs, e2, e⟩ := of_ok e
  obtain ⟨hz, e⟩ := when_ok e
  cases e
  refine hp B.tie (S.ext T B.ext) ⟨a.1, a.2, e1, fun js' H' ps x1 T1 r1 => ?_⟩
  have B1 := B.go x1 T1
  obtain ⟨ws, h1, h2, h3⟩ := pairs_rep e2 r1.1 r1.2
  refine ⟨B1.at_, ws, h1, ?_, ?_⟩
  · have : kvs.length = ws.length := by have := congrArg List.length h2; simpa using this
    omega
  · have kp := Kp.side (K := K) (js := js') (o1 := HO.dK (mergeK [] ws)) B1.at_ B1.plain
    have B2 := B1.put (o1 := HO.dK (mergeK [] ws)) hn trivial
    have hr : RepO K js' H' (.dct (mergeD [] kvs)) (.dK (mergeK [] ws)) := merge_rep h2 h3 rfl .nil
    obtain ⟨x, T'⟩ := B2.join hn (hr.kp kp)
    refine f _ _ (.ref p) x T' (.ref ?_)
    rw [List.getElem?_append_right (by rw [B2.tie.len]; exact Nat.le_refl _), B2.tie.len, Nat.sub_self]
    rfl
end Cp

/-! Expressions: the compact run's answer is the walk's. -/
namespace Cp
open PySem L2

/-! ### targets -/
def rSet2 (K : PySem.W.Frag) : V → V → V → Hp → (Hp → Prop) → Prop := fun o i v H Q => ∃ js M d e w M', Tie K js H M ∧ Rep K js H d o ∧ Rep K js H e i ∧ Rep K js H w v ∧ setItem M d e w = .ok M' ∧ ∀ js' H', Ext js H js' H' → Tie K js' H' M' → Q H'
theorem set_any {X : Cx} (hu : X.A.units + 1 < cLine) : PSet X (rSet2 X.K) := by
  intro pins s σ H o i v ov iv u Q I ro ri rv h
  obtain ⟨js, M, d, e, w, M', T, r1, r2, r3, hs, f⟩ := h
  cases d with
  | ref n =>
    cases hm : M[n]? with
    | none =>
      have hs : (match M[n]? with | some (MO.lst xs) => (match e with | .int k => R.of (L2.ixN xs.length k) fun j => R.ok (M.set n (.lst (xs.set j w))) | _ => .bad) | some (MO.dct kvs) => R.of (keyD e) fun k => R.when (kvs.length < sizeLine) (.ok (M.set n (.dct (putD kvs k w)))) | _ => .bad) = .ok M' := hs
      rw [hm] at hs; cases hs
    | some mo =>
      have hs : (match M[n]? with | some (MO.lst xs) => (match e with | .int k => R.of (L2.ixN xs.length k) fun j => R.ok (M.set n (.lst (xs.set j w))) | _ => .bad) | some (MO.dct kvs) => R.of (keyD e) fun k => R.when (kvs.length < sizeLine) (.ok (M.set n (.dct (putD kvs k w)))) | _ => .bad) = .ok M' := hs
      rw [hm] at hs
      obtain ⟨a, q, rfl, hj, h1, o1⟩ := r1.refH T hm
      cases o1 with
      | @lst xs vs hr =>
        cases r2 with
        | int k =>
          obtain ⟨j, hj2, hs⟩ := of_ok hs
          cases hs
          have tt := T.set hj (RepO.lst (hr.set r3 j))
          refine set_list pins s σ H _ _ _ ov iv u Q I ro ri rv ⟨a, vs, k, j, rfl, rfl, h1, ?_, f _ _ tt.1 tt.2⟩
          rw [← hr.length]; exact hj2
        | _ => cases hs
      | @dct kvs ws ek hr =>
        obtain ⟨k, hk, hs⟩ := of_ok hs
        obtain ⟨hl, hs⟩ := when_ok hs
        cases hs
        obtain ⟨p1, p2⟩ := put_rep (k := k) r3 ek hr
        have tt := T.set hj (RepO.dct p1 p2)
        have hlen : ws.length < sizeLine := by have := congrArg List.length ek; simp at this; omega
        refine set_dict hu pins s σ H _ _ _ ov iv u Q I ro ri rv ⟨a, _, rfl, .inl ⟨ws, k, h1, key_rep r2 hk, hlen, rfl⟩, f _ _ tt.1 tt.2⟩
  | _ => cases hs
theorem sub1 {i : Expr} (h : noSl i = true) (o : Expr) (pos : Pos) (env : Env) (v : Value) : assign (.Subscript o i pos) env v = (do
      let ov ← holding [v] (eval o env)
      let iv ← holding [v, ov] (eval i env)
      standAt pos
      holding [v, ov, iv] (PySem.setItem ov iv v)
      release [v, ov, iv] []) := by
  cases i <;> first | rfl | exact absurd h Bool.false_ne_true
def setsV : List Nat → List V → St → St
  | i :: is, v :: vs, t => setsV is vs (t.set i (some v))
  | _, _, t => t
theorem sets_rep {K : PySem.W.Frag} {js : List Addr} {H : Hp} : ∀ {is : List Nat} {ds : List D} {vs : List V} {s : Ev} {t : St}, Reps K js H ds vs → RepS K js H s t → RepS K js H (setsE is ds s) (setsV is vs t)
  | [], _, _, _, _, _, S => S
  | _ :: _, [], _, _, _, .nil, S => S
  | i :: is, _ :: _, _, _, _, .cons a r, S => sets_rep (is := is) r (S.set a i)
theorem wipe_sets {own : List Nat} : ∀ {is : List Nat} {vs : List V} {t : St}, (∀ i ∈ is, i ∈ own) → L2.wipe (setsV is vs t) own = L2.wipe t own
  | [], _, _, _ => rfl
  | _ :: _, [], _, _ => rfl
  | i :: is, v :: vs, t, h => by
    show L2.wipe (setsV is vs (t.set i (some v))) own = _
    rw [wipe_sets fun j hj => h j (List.mem_cons_of_mem _ hj), wipe_set _ _ (h i List.mem_cons_self)]
def gSets (is : List Nat) : TGs := fun vs t H Q => vs.length = is.length ∧ Q (setsV is vs t) H
section
variable {G : Mdl} {N : List Str} {c : Scope} {f : Str → Bool} {n : Nat} {X : Cx}
theorem Okx.ix (k : Okx G N c f n X) {i : Nat} {x : Str} (h : N[i]? = some x) : X.N[i]? = some x := by rw [k.hN]; exact h
theorem Okx.nod (k : Okx G N c f n X) : X.N.Nodup := by rw [k.hN]; exact k.nd
theorem Okx.u1 (k : Okx G N c f n X) : X.A.units + 1 < cLine := by have := k.u66; omega
theorem Okx.u65 (k : Okx G N c f n X) : X.A.units + 65 < cLine := by have := k.u66; omega
theorem names_run (k : Okx G N c f n X) : ∀ {is : List Nat} {es : List Expr}, namesM N c f is es = true → PGs X es (gSets is) ∧ (assignEach es X.env).length = is.length ∧ (assignEach es X.env).findIdx? (·.1) = none
  | [], [], _ => ⟨⟨fun pins s σ H vs us Q I r h => by
      obtain ⟨e, h⟩ := h
      have : vs = [] := List.eq_nil_of_length_eq_zero e
      subst this
      exact pgs_nil.run pins s σ H [] us Q I r ⟨rfl, h⟩⟩, rfl, rfl⟩
  | [], _ :: _, h => absurd h Bool.false_ne_true
  | _ :: _, [], h => absurd h Bool.false_ne_true
  | i :: is, e :: es, h => by
    cases e with
    | Name x p =>
      have h : (decide (N[i]? = some x) && stoB c f x && namesM N c f is es) = true := h
      simp only [Bool.and_eq_true, decide_eq_true_eq] at h
      obtain ⟨⟨h1, h2⟩, h3⟩ := h
      obtain ⟨j1, j2, j3⟩ := names_run k h3
      obtain ⟨l1, l2⟩ := k.sto h2
      refine ⟨⟨fun pins s σ H vs us Q I r h => ?_⟩, by show (_ :: assignEach es X.env).length = _; rw [List.length_cons, List.length_cons, j2], ?_⟩
      · obtain ⟨e, h⟩ := h
        cases vs with
        | nil => cases e
        | cons v vs =>
          exact (pgs_cons (pg_name k.nod (k.ix h1) l1 l2) j1 rfl).run pins s σ H _ us Q I r ⟨v, vs, rfl, ⟨Nat.succ.inj e, h⟩⟩
      · show (_ :: assignEach es X.env).findIdx? (·.1) = none
        rw [List.findIdx?_cons]
        simp [j3]
    | _ => exact absurd h Bool.false_ne_true
theorem names_len (k : Okx G N c f n X) {is : List Nat} {es : List Expr} (h : namesM N c f is es = true) : (assignEach es X.env).length = is.length := (names_run k h).2.1
end

/-! ### tests in a row -/
theorem pts_stop {X : Cx} {pins : List (Addr × Obj)} {σ : St} {H : Hp} {s : Shared} {Q : Bool → Hp → Prop} : ∀ {es : List Expr}, Inv X pins σ H s → Q false H →
    wpAny (model X.prog X.w) X.A (forIn es false fun c r => if r = true then do let ok ← isTrue c X.env (eval c X.env); pure (ForInStep.yield ok) else pure (ForInStep.yield r)) (TP X pins σ Q) X.xe s
  | [], I, h => by
    rw [List.forIn_nil]
    exact wpAny_pure ⟨H, I, h⟩
  | e :: es, I, h => by
    rw [List.forIn_cons, if_neg Bool.false_ne_true]
    exact wpAny_bind (wpAny_pure (pts_stop I h))
theorem pts_cons {X : Cx} {e : Expr} {es : List Expr} {ta tb : TT} (h1 : PT X e ta) (h2 : PTs X es tb) : PTs X (e :: es) (tAnd ta tb) := by
  refine ⟨fun pins s σ H Q I h => ?_⟩
  rw [List.forIn_cons, if_pos rfl]
  refine wpAny_bind (wpAny_bind (thn (h1.run pins s σ H _ I h) fun b s1 ⟨H1, I1, q1⟩ => wpAny_pure ?_))
  cases b with
  | true => exact h2.run pins s1 σ H1 Q I1 q1
  | false => exact pts_stop I1 q1

/-! ### arguments -/
theorem star_all {G : Mdl} {N : List Str} {c : Scope} {f : Str → Bool} {env : Env} : ∀ {es : Es} {xs : List Expr}, mEs G N c f es xs = true → starEach xs env = xs.map fun x => (false, eval x env)
  | .nil, [], _ => rfl
  | .nil, _ :: _, h => absurd h Bool.false_ne_true
  | .cons _ _, [], h => absurd h Bool.false_ne_true
  | .cons e es, x :: xs, h => by
    have h : (noStar x && mE G N c f e x && mEs G N c f es xs) = true := h
    simp only [Bool.and_eq_true] at h
    rw [star1 h.1.1, star_all h.2]; rfl
theorem any_back {pos : Pos} {env : Env} (xs : List Expr) : (backTo pos (xs.map fun x => (false, eval x env))).any (·.1) = false := by
  unfold backTo
  rw [List.map_map, List.any_map]
  exact List.any_eq_false.mpr fun x _ => by simp
theorem all_back {pos : Pos} {env : Env} (xs : List Expr) : (backTo pos (xs.map fun x => (false, eval x env))).all (fun x => !x.1) = true := by
  unfold backTo
  rw [List.map_map, List.all_map]
  exact List.all_eq_true.mpr fun x _ => by simp

/-! ### builtins, methods -/
theorem bi_in : ∀ b : Bi, b.nm ∈ bltNames := by intro b; cases b <;> decide
theorem callF_len {G : Mdl} {n f : Nat} {ds : List D} {M : Mem} {z : D × Mem} (h : callF G n f ds M = .ok z) : ∀ F, G.fns[f]? = some F → ds.length = F.ps.length := by
  intro F hF
  cases n with
  | zero => cases h
  | succ n =>
    unfold callF at h
    rw [hF] at h
    exact (when_ok h).1
theorem pe_callV {X : Cx} {b : Bi} {r : List V → Hp → VK → Prop} {e : Expr} {es : List Expr} {p pos : Pos} {t : TA} (hc : CallR X b.val r) (hg : L2.Gl X b.nm) (hm : X.mg b.nm = none) (ha : PA X (e :: es) t)
    (he : starEach (e :: es) X.env = (false, eval e X.env) :: starEach es X.env) (hpl : (backTo pos (starEach es X.env)).any (·.1) = false) : PE X (.Call (.Name b.nm p) (e :: es) [] pos) (tCB r t) := by
  cases b <;> first | exact pe_callB hc hg hm (by decide +kernel) ha (by decide) (by decide) he hpl | exact pe_callTy hc hg hm (by decide +kernel) ha (by decide) (by decide) he hpl
theorem pe_methV {X : Cx} (hu : X.A.units + 1 < cLine) (m : Me) {o : Expr} {xs : List Expr} {apos cpos : Pos} {ro : Ev → Mem → RD} {ra : Ev → Mem → R (List D × Mem)} (ho : PE X o (tE X.K ro)) (ha : PA X xs (tA X.K ra))
    (h0 : xs = [] → ∀ s M, ra s M = .ok ([], M))
    (hbase : attributeBase o m.nm X.env (eval o X.env) = eval o X.env) (hn : xs.length < 29) (hline : (apos.endLine == cpos.line) = true) (hs : starEach xs X.env = xs.map fun x => (false, eval x X.env)) :
    PE X (.Call (.Attribute o m.nm apos) xs [] cpos) (tE X.K fun s M => (ro s M).bind fun p => R.when (tyM m p.2 p.1 = true) ((ra s p.2).bind fun q => meD q.2 m p.1 q.1)) := by
  have main : ∀ (T id : String) (f : Mem → D → List D → RD), PlainAttrs T → Slot T m.nm id → typeOf (.builtin id) = pure (.type "method_descriptor") → MtR X id (rMe X.K f) → (∀ M o ds, meD M m o ds = f M o ds) →
      (∀ v H, (m.ofS = true ∧ tyV X.K "str" v H) ∨ (m.ofL = true ∧ tyV X.K "list" v H) ∨ (m.ofK = true ∧ tyV X.K "dict" v H) → tyV X.K T v H) →
      PE X (.Call (.Attribute o m.nm apos) xs [] cpos) (tE X.K fun s M => (ro s M).bind fun p => R.when (tyM m p.2 p.1 = true) ((ra s p.2).bind fun q => meD q.2 m p.1 q.1)) := by
    intro T id f pa sl ty hm hf w
    have e1 : (fun (s : Ev) (M : Mem) => (ro s M).bind fun p => R.when (tyM m p.2 p.1 = true) ((ra s p.2).bind fun q => meD q.2 m p.1 q.1)) = fun s M => (ro s M).bind fun p => R.when (tyM m p.2 p.1 = true) ((ra s p.2).bind fun q => f q.2 p.1 q.1) := by
      funext s M
      congr 1; funext p; congr 1; congr 1; funext q; exact hf _ _ _
    rw [e1]
    cases xs with
    | nil =>
      have e2 : (fun (s : Ev) (M : Mem) => (ro s M).bind fun p => R.when (tyM m p.2 p.1 = true) ((ra s p.2).bind fun q => f q.2 p.1 q.1)) = fun s M => (ro s M).bind fun p => R.when (tyM m p.2 p.1 = true) (f p.2 p.1 []) := by
        funext s M
        congr 1; funext p; congr 1; rw [h0 rfl]; rfl
      rw [e2]
      exact pe_weak (pe_bm0 pa sl ty hm ho hbase hline) fun s H Q q => rd_meth0 w q
    | cons x xs =>
      have hs1 : starEach (x :: xs) X.env = (false, eval x X.env) :: xs.map fun x => (false, eval x X.env) := hs
      have hs2 : starEach (x :: xs) X.env = (false, eval x X.env) :: starEach xs X.env ∧ starEach xs X.env = xs.map fun x => (false, eval x X.env) := by
        cases x <;> first | exact ⟨rfl, (List.cons.inj hs1).2⟩ | (exfalso; cases hs1)
      refine pe_weak (pe_bm pa sl ty hm ho ha hbase ?_ hline hs2.1 (by rw [hs2.2]; exact any_back xs)) fun s H Q q => rd_meth w q
      rw [hs, all_back]
      have : (x :: xs).length + ([] : List Keyword).length + (if ([] : List Keyword).isEmpty then 0 else 1) < 30 := by
        show (x :: xs).length + 0 + 0 < 30
        omega
      rw [decide_eq_true this]
      rfl
  have bad : (∀ M o ds, meD M m o ds = .bad) → PE X (.Call (.Attribute o m.nm apos) xs [] cpos) (tE X.K fun s M => (ro s M).bind fun p => R.when (tyM m p.2 p.1 = true) ((ra s p.2).bind fun q => meD q.2 m p.1 q.1)) := fun hb =>
    pe_bad fun s H Q ⟨js, M, s', T, S, c, M2, e, _⟩ => by
      obtain ⟨p, e1, e⟩ := bind_ok e
      obtain ⟨_, e⟩ := when_ok e
      obtain ⟨q, e2, e⟩ := bind_ok e
      rw [hb] at e
      cases e
  cases m with
  | append => exact main "list" "list.append" appendD PySem.F.plainAttrs_list PySem.F.slot_list_append PySem.F.type_list_append me_append (fun _ _ _ => rfl) fun v H h => by rcases h with ⟨e, _⟩ | ⟨_, h⟩ | ⟨e, _⟩; cases e; exact h; cases e
  | extend => exact main "list" "list.extend" extendD PySem.F.plainAttrs_list PySem.F.slot_list_extend PySem.F.type_list_extend me_extend (fun _ _ _ => rfl) fun v H h => by rcases h with ⟨e, _⟩ | ⟨_, h⟩ | ⟨e, _⟩; cases e; exact h; cases e
  | pop => exact main "list" "list.pop" popD PySem.F.plainAttrs_list PySem.F.slot_list_pop PySem.F.type_list_pop me_pop (fun _ _ _ => rfl) fun v H h => by rcases h with ⟨e, _⟩ | ⟨_, h⟩ | ⟨e, _⟩; cases e; exact h; cases e
  | join => exact main "str" "str.join" joinD PySem.F.plainAttrs_str PySem.F.slot_str_join PySem.F.type_str_join me_join (fun _ _ _ => rfl) fun v H h => by rcases h with ⟨_, h⟩ | ⟨e, _⟩ | ⟨e, _⟩; exact h; cases e; cases e
  | get => exact main "dict" "dict.get" getD PySem.F.plainAttrs_dict PySem.F.slot_dict_get PySem.F.type_dict_get (me_get hu) (fun _ _ _ => rfl) fun v H h => by rcases h with ⟨e, _⟩ | ⟨e, _⟩ | ⟨_, h⟩; cases e; cases e; exact h
  | _ => exact bad fun _ _ _ => rfl

/-! ### ranges walked -/
section
variable {K : PySem.W.Frag} {t : St} {H : Hp}
theorem rgOk1 {a b : Int} (h : rngOk a b = true) : -(2 ^ 62) ≤ a ∧ a < 2 ^ 62 ∧ -(2 ^ 62) ≤ b ∧ b < 2 ^ 62 := by
  unfold rngOk at h
  simp only [Bool.and_eq_true, decide_eq_true_eq] at h
  exact ⟨h.1.1.1, h.1.1.2, h.1.2, h.2⟩
theorem rd_rg1 {ra : Ev → Mem → RD} {Q : L2.It → Hp → Prop} (h : tI K (fun s M => (ra s M).bind fun p => match p.1 with | .int n => R.when (rngOk 0 n = true) (.ok (.its (rngD 0 n), p.2)) | _ => .bad) t H Q) : iRng1 (tCons (tE K ra) tNil) t H Q := by
  obtain ⟨js, M, s, T, S, g⟩ := h
  refine ⟨js, M, s, T, S, g.bind.mono ?_⟩
  rintro x H1 ⟨js1, M1, d, T1, x1, r1, g1⟩
  cases r1 with
  | int i =>
    obtain ⟨hk, g1⟩ := Go.when g1
    obtain ⟨h1, h2, h3, h4⟩ := rgOk1 hk
    refine ⟨i, rfl, h3, h4, Go.ok g1 .refl T1 ?_⟩
    have := src_rng (K := K) (js := js1) (H := H1) 0 i
    rw [Int.sub_zero] at this
    exact this
  | _ => exact g1.bad
theorem rd_rg2 {ra rb : Ev → Mem → RD} {Q : L2.It → Hp → Prop} (h : tI K (fun s M => (ra s M).bind fun p => (rb s p.2).bind fun q => match p.1, q.1 with | .int m, .int n => R.when (rngOk m n = true) (.ok (.its (rngD m n), q.2)) | _, _ => .bad) t H Q) :
    iRng2 (tCons (tE K ra) (tCons (tE K rb) tNil)) t H Q := by
  obtain ⟨js, M, s, T, S, g⟩ := h
  refine ⟨js, M, s, T, S, g.bind.mono ?_⟩
  rintro x H1 ⟨js1, M1, d, T1, x1, r1, g1⟩
  refine ⟨js1, M1, s, T1, S.ext T x1, g1.bind.mono ?_⟩
  rintro y H2 ⟨js2, M2, e, T2, x2, r2, g2⟩
  cases r1 with
  | int i =>
    cases r2 with
    | int j =>
      obtain ⟨hk, g2⟩ := Go.when g2
      exact ⟨i, j, rfl, rgOk1 hk, Go.ok g2 .refl T2 (src_rng i j)⟩
    | _ => exact g2.bad
  | _ => exact g2.bad
theorem rd_ex {ra : Ev → Mem → RD} {Q : L2.It → Hp → Prop} (h : tI K (fun s M => (ra s M).bind fun p => match p.1 with
    | .tup xs => .ok (.its xs, p.2)
    | .str z => .ok (.its (z.cps.toList.map fun c => .str ⟨#[c]⟩), p.2)
    | .frl xs => .ok (.its xs, p.2)
    | .ref a => match p.2[a]? with
      | some (.lst _) => .ok (.live a, p.2)
      | _ => .bad
    | _ => .bad) t H Q) :
    tE K ra t H fun x H1 => (∃ a xs, x = .ref a ∧ SqL K H1 a xs ∧ Q (Itl K a) H1) ∨ (∃ a xs, x = .ref a ∧ SqT K H1 a xs ∧ Q (Itt K a) H1) ∨ ∃ z, x = .str z ∧ Q (Its z) H1 := by
  obtain ⟨js, M, s, T, S, g⟩ := h
  refine ⟨js, M, s, T, S, g.bind.mono ?_⟩
  rintro x H1 ⟨js1, M1, d, T1, x1, r1, g1⟩
  cases d with
  | tup xs => cases r1 with | tup hs hr => exact .inr (.inl ⟨_, _, rfl, hs, Go.ok g1 .refl T1 (src_tup T1 hs hr)⟩)
  | str z => cases r1; exact .inr (.inr ⟨_, rfl, Go.ok g1 .refl T1 (src_str z)⟩)
  | frl xs => cases r1 with | frl hs hr => exact .inl ⟨_, _, rfl, hs.sq, Go.ok g1 .refl T1 (src_frz T1 hs hr)⟩
  | ref n =>
    have g1 : Go K (IsSrc K) js1 H1 (match M1[n]? with | some (.lst _) => R.ok (Src.live n, M1) | _ => .bad) Q := g1
    cases e : M1[n]? with
    | none => rw [e] at g1; exact g1.bad
    | some o =>
      rw [e] at g1
      obtain ⟨a, u, rfl, hj, h1, o1⟩ := r1.refH T1 e
      cases o1 with
      | lst hr => exact .inl ⟨a, _, rfl, .inl (.inl h1), Go.ok g1 .refl T1 (src_live hj)⟩
      | dct _ _ => exact g1.bad
  | _ => exact g1.bad
end
end Cp

/-! Sets of keys: what stands in them, what is put in, what is sorted out of them. -/
namespace Cp
open PySem PySem.Spec PyProof.Rows L2

/-- keys of one kind: ints, texts -/
structure SK (P : Program) (w : World) (κ : Type) [DecidableEq κ] where
  knd : PySem.KeyKind P w κ
  key : Value → κ
  key_of : ∀ {k v}, knd.is k v = true → key v = k
  scan : ∀ {k v}, knd.is k v = true → v.scannable = true
  val : κ → V
  rel : ∀ {k v}, RelV (val k) v → knd.is k v = true
  ler : ∀ {k v}, knd.is k v = true → RelV (val k) v
  ord : PyProof.Rows.KeyKind
  one : ord.OneLt
  ok : κ → ord.α
  okI : ∀ {k v}, knd.is k v = true → ord.keyOf v = some (ok k)
  okJ : ∀ {k j}, ok k = ok j → k = j
  same : ∀ a b vs, (∀ v ∈ a :: b :: vs, ∃ k, knd.is k v = true) → keyKind' (a :: b :: vs).toArray = pure oneType'
section
variable {P : Program} {w : World} {κ : Type} [DecidableEq κ] (Z : SK P w κ)
def SGood (e : Int × Value) : Prop := ∃ k, Z.knd.is k e.2 = true ∧ e.1 = Z.knd.hash k
def sKeys (es : Array (Int × Value)) : List κ := es.toList.map fun e => Z.key e.2
/-- a set at a whose members are those of ks, in a table that can be walked -/
def SetG (h : Heap) (a : Addr) (ks : List κ) : Prop :=
  ∃ o es ep t, h.get? a = some o ∧ o.ExactSet ∧ o.data = .set es ep t ∧ ((∀ e ∈ es.toList, SGood Z e) ∧ (sKeys Z es).Nodup ∧ ∀ k, k ∈ sKeys Z es ↔ k ∈ ks) ∧
    (es.size < scanBound ∧ t.fits es.size = true) ∧ Ris t.place.toList ∧ (w.params.followText "set-order" = true ∨ t.led = true)
variable {Z} {h h' : Heap} {a : Addr} {ks : List κ}
theorem SetG.move (R : SetG Z h a ks) (k : ∀ o, h.get? a = some o → h'.get? a = some o) : SetG Z h' a ks :=
  let ⟨o, es, ep, t, ho, r⟩ := R
  ⟨o, es, ep, t, k o ho, r⟩
theorem SetG.elems {es : Array (Int × Value)} (g : ∀ e ∈ es.toList, SGood Z e) : ElemsOf Z.knd es.toList := fun e he =>
  let ⟨k, h1, h2⟩ := g e he
  ⟨⟨k, h1, h2⟩, Z.scan h1⟩
theorem SGood.iff {e : Int × Value} (g : SGood Z e) (k : κ) : Z.knd.is k e.2 = true ↔ Z.key e.2 = k := by
  obtain ⟨j, h1, _⟩ := g
  refine ⟨fun z => Z.key_of z, fun z => ?_⟩
  rw [Z.key_of h1] at z
  rw [← z]; exact h1
theorem sKeys_mem {es : Array (Int × Value)} (g : ∀ e ∈ es.toList, SGood Z e) (k : κ) : k ∈ sKeys Z es ↔ ∃ e ∈ es.toList, Z.knd.is k e.2 = true := by
  unfold sKeys
  rw [List.mem_map]
  exact ⟨fun ⟨e, he, q⟩ => ⟨e, he, ((g e he).iff k).mpr q⟩, fun ⟨e, he, q⟩ => ⟨e, he, ((g e he).iff k).mp q⟩⟩
theorem SetG.setOf (R : SetG Z h a ks) : ∃ n, h.SetOf Z.knd a (fun k => decide (k ∈ ks)) n := by
  obtain ⟨o, es, ep, t, ho, hx, hd, ⟨g, nd, hm⟩, ⟨hb, hf⟩, _⟩ := R
  exact ⟨es.size, o, es, ep, t, ho, hx, hd, SetG.elems g, fun k => by rw [decide_eq_true_eq, ← hm k]; exact sKeys_mem g k, hb, hf, rfl⟩
/-- what two stores leave of the object -/
theorem put_at {o : Obj} {es es' : Array (Int × Value)} {ep : Nat} {t t' : SetTable} (ho : h.get? a = some o) (hd : o.data = .set es ep t) :
    (h.update a (Obj.putSet es' t')).get? a = some { o with data := .set es' (ep + 1) t' } := by
  have eq := putSet_of es' t' hd
  have q := Heap.get?_update_self (Obj.putSet es' t') ho (by rw [eq]; rfl)
  rwa [eq] at q
end

section
variable {P : Program} {w : World} {κ : Type} [DecidableEq κ] {Z : SK P w κ} {A : Around} {E : Value → Shared → Prop} {s : Shared} {a : Addr} {ks : List κ}
/-- room for one more: no more of these than the bound -/
def SRoom (ks : List κ) : Prop := ∀ l : List κ, l.Nodup → (∀ x ∈ l, x ∈ ks) → l.length < scanBound
/-- the end of putting one in: the table is laid, at times wider -/
theorem put_end {give : Bool → Sem Unit} (hg : ∀ (b : Bool) (s1 : Shared) (R : Unit → Shared → Prop), R () s1 → wpAny (model P w) A (give b) R E s1)
    {o : Obj} {es : Array (Int × Value)} {ep : Nat} {t : SetTable} (ho : s.heap.get? a = some o) (hx : o.ExactSet) (hd : o.data = .set es ep t)
    {fs : Array (Int × Value)} {u : SetTable} (g : (∀ e ∈ fs.toList, SGood Z e) ∧ (sKeys Z fs).Nodup ∧ ∀ k, k ∈ sKeys Z fs ↔ k ∈ ks) (hb : fs.size < scanBound) (hf : u.fits fs.size = true) (hr : Ris u.place.toList)
    (hl : w.params.followText "set-order" = true ∨ u.led = true) {was : Bool} {R : Option Bool → Shared → Prop} (fin : ∀ h', Heap.SameBut a s.heap h' → SetG Z h' a ks → R (some true) { s with heap := h' }) :
    wpAny (model P w) A (do
        storeSet a fs u
        if (!was && u.tooFull) = true then
          give (relayAll u fs (SetTable.grown fs.size)).2.2
          storeSet a (relayAll u fs (SetTable.grown fs.size)).1 (relayAll u fs (SetTable.grown fs.size)).2.1
          pure (some true)
        else pure (some true)) R E s := by
  refine wpAny_bind (wpAny_storeSet_of ho hd ?_ (fits_of_scanBound hb))
  have o1 := put_at (es' := fs) (t' := u) ho hd
  have b1 := Heap.SameBut.update s.heap a (Obj.putSet fs u)
  split
  · have p1 := relayAll_perm u fs (SetTable.grown fs.size)
    have p2 := relayAll_fits u fs (SetTable.grown fs.size)
    have p3 := relayAll_ris u fs (SetTable.grown fs.size)
    have p4 := relayAll_led u fs (SetTable.grown fs.size)
    generalize relayAll u fs (SetTable.grown fs.size) = q at p1 p2 p3 p4 ⊢
    rcases q with ⟨gs, v, gave⟩
    have hs : gs.size = fs.size := by
      have := p1.length_eq
      rwa [Array.length_toList, Array.length_toList] at this
    have hb2 : gs.size < scanBound := hs ▸ hb
    have pk : (sKeys Z gs).Perm (sKeys Z fs) := p1.map fun e : Int × Value => Z.key e.2
    refine wpAny_bind (hg _ _ _ (wpAny_bind (wpAny_storeSet_of o1 rfl ?_ (fits_of_scanBound hb2))))
    have o2 := put_at (es' := gs) (t' := v) o1 rfl
    exact wpAny_pure (fin _ (b1.trans (Heap.SameBut.update _ a _)) ⟨_, gs, _, v, o2, hx, rfl, ⟨fun e he => g.1 e (p1.mem_iff.mp he), pk.nodup_iff.mpr g.2.1, fun k => pk.mem_iff.trans (g.2.2 k)⟩, ⟨hb2, p2⟩, p3,
      hl.imp id fun z => p4.trans z⟩)
  · exact wpAny_pure (fin _ b1 ⟨_, fs, _, u, o1, hx, rfl, g, ⟨hb, hf⟩, hr, hl⟩)
theorem put_hashed {k : κ} {v : Value} {Q : Bool → Shared → Prop} (hv : Z.knd.is k v = true) (R : SetG Z s.heap a ks) (room : SRoom (ks ++ [k]))
    (fin : ∀ b h', Heap.SameBut a s.heap h' → SetG Z h' a (ks ++ [k]) → Q b { s with heap := h' }) : wpAny (model P w) A (setAddHashed a v (Z.knd.hash k)) Q E s := by
  obtain ⟨o, es, ep, t, ho, hx, hd, ⟨g, nd, hm⟩, ⟨hb, hf⟩, hr, hl⟩ := R
  have sv := Z.scan hv
  have el := SetG.elems g
  have last : ∀ x : κ, x ∈ ks ++ [k] ↔ x ∈ ks ∨ x = k := fun x => by rw [List.mem_append, List.mem_singleton]
  unfold setAddHashed setAddHashedIn
  refine wpAny_holding (wpAny_bind (wpAny_setState_of ho hd hf ?_))
  dsimp only
  rw [byScan_of sv hb el]
  simp only [↓reduceIte]
  unfold setAddByScan
  refine wpAny_bind (wpAny_bind (wpAny_rule (wpAny_bind (wpAny_setScan_of hv ho hd hf el ?_))))
  cases fd : List.findIdx? (fun e => Z.knd.is k e.2) es.toList with
  | some j =>
    obtain ⟨hj, pj, _⟩ := List.findIdx?_eq_some_iff_getElem.mp fd
    have hk : k ∈ ks := (hm k).mp ((sKeys_mem g k).mpr ⟨es.toList[j], List.getElem_mem hj, pj⟩)
    refine wpAny_pure (wpAny_pure (fin _ s.heap (Heap.SameBut.refl a s.heap) ⟨o, es, ep, t, ho, hx, hd, ⟨g, nd, fun x => ?_⟩, ⟨hb, hf⟩, hr, hl⟩))
    rw [hm x, last x]
    exact ⟨.inl, fun z => z.elim id fun e => e ▸ hk⟩
  | none =>
    have hk : k ∉ sKeys Z es := fun z => by
      obtain ⟨e, he, q⟩ := (sKeys_mem g k).mp z
      have := List.findIdx?_eq_none_iff.mp fd e he
      rw [q] at this
      exact absurd this (by decide)
    have gw : ∀ (b : Bool) (s1 : Shared) (R : Unit → Shared → Prop), R () s1 → wpAny (model P w) A (match b with | true => rule "set.scan.the-table-gave-way" | false => pure ()) R E s1 := fun b s1 R r => by
      cases b with
      | true => exact wpAny_rule r
      | false => exact wpAny_pure r
    have p1 := layNew_perm t es (Z.knd.hash k) v
    have p2 := layNew_fits t es (Z.knd.hash k) v
    have p3 := layNew_ris t es (Z.knd.hash k) v hr
    have p4 := layNew_led t es (Z.knd.hash k) v
    dsimp only
    generalize layNew t es (Z.knd.hash k) v = q at p1 p2 p3 p4 ⊢
    rcases q with ⟨fs, u, was, gave⟩
    dsimp only at p1 p2 p3 p4 ⊢
    rw [Array.toList_push] at p1
    have pc : fs.toList.Perm ((Z.knd.hash k, v) :: es.toList) := p1.trans (List.perm_append_singleton _ _)
    have pk : (sKeys Z fs).Perm (k :: sKeys Z es) := by
      have := pc.map fun e : Int × Value => Z.key e.2
      rw [List.map_cons] at this
      rwa [show Z.key ((Z.knd.hash k, v) : Int × Value).2 = k from Z.key_of hv] at this
    have n1 : (sKeys Z fs).Nodup := pk.nodup_iff.mpr (List.nodup_cons.mpr ⟨hk, nd⟩)
    have m1 : ∀ x, x ∈ sKeys Z fs ↔ x ∈ ks ++ [k] := fun x => by rw [pk.mem_iff, List.mem_cons, hm x, last x]; exact Or.comm
    have g1 : ∀ e ∈ fs.toList, SGood Z e := fun e he => (List.mem_cons.mp (pc.mem_iff.mp he)).elim (fun z => by rw [z]; exact ⟨k, hv, rfl⟩) (g e)
    have hb1 : fs.size < scanBound := by
      have := room (sKeys Z fs) n1 fun x hx => (m1 x).mp hx
      unfold sKeys at this
      rwa [List.length_map, Array.length_toList] at this
    have hl1 : w.params.followText "set-order" = true ∨ u.led = true := hl.imp id fun z => p4.trans z
    refine wpAny_bind (gw _ _ _ ?_)
    split
    · refine wpAny_bind ?_
      rw [hashByValue_scannable 8 sv]
      refine wpAny_pure (put_end (Z := Z) (ks := ks ++ [k]) gw ho hx hd ⟨g1, n1, m1⟩ hb1 ?_ ?_ ?_ fun h' sb r => ?_)
      · first | (split <;> first | exact p2 | exact SetTable.fits_plain_off p2) | exact p2
      · first | (split <;> exact p3) | exact p3
      · first | (split <;> exact hl1) | exact hl1
      · exact wpAny_pure (fin true h' sb r)
    · refine wpAny_bind (wpAny_pure ?_)
      simp only [↓reduceIte]
      exact put_end (Z := Z) (ks := ks ++ [k]) gw ho hx hd ⟨g1, n1, m1⟩ hb1 p2 p3 hl1 fun h' sb r => wpAny_pure (fin true h' sb r)
theorem put_in {k : κ} {v : Value} {Q : Value → Shared → Prop} (hv : Z.knd.is k v = true) (R : SetG Z s.heap a ks) (room : SRoom (ks ++ [k]))
    (fin : ∀ h', Heap.SameBut a s.heap h' → SetG Z h' a (ks ++ [k]) → Q .none { s with heap := h', toks := s.toks + 1 }) : wpAny (model P w) A (call (.builtin "set.add") [.ref a, v]) Q E s := by
  obtain ⟨n, hs⟩ := R.setOf
  refine wpAny_call_entry F.slot_set_add hs.typeIs F.entry_set_add ?_ (F.args_set_add_2 _ _)
  unfold Builtin.«set.add» Builtin.Frozenset.oneOther
  simp only [List.isEmpty_nil, bind_assoc]
  unfold Builtin.Frozenset.addrOf setAdd
  refine wpAny_bind (wpAny_pure ?_)
  try dsimp only
  refine wpAny_bind (wpAny_pure ?_)
  try dsimp only
  refine wpAny_bind (wpAny_holding (wpAny_bind (Z.knd.pyHash hv ?_)))
  refine put_hashed (s := { s with toks := s.toks + 1 }) hv R room fun b h' sb r => ?_
  show wpAny _ _ (ret Value.none) _ _ _
  exact wpAny_pure ⟨_, rfl, fin h' sb r⟩
/-- a new one -/
theorem setG_new {h : Heap} (Z : SK P w κ) : SetG Z (h.push { cls := .type "set", dict := none, data := .set #[] 0 (.fresh 0 0 (!w.params.followText "set-order")) }) h.objs.size [] := by
  refine ⟨_, #[], 0, _, Heap.get?_push_size _ rfl, ⟨rfl, rfl, rfl⟩, rfl, ⟨fun e he => by simp at he, by simp [sKeys], fun k => by simp [sKeys]⟩, ⟨by decide, by rfl⟩, List.Pairwise.nil, ?_⟩
  show _ ∨ (!w.params.followText "set-order") = true
  cases w.params.followText "set-order" with
  | true => exact .inl rfl
  | false => exact .inr rfl
theorem set_made {Q : Value → Shared → Prop} (h : Q (.ref s.heap.objs.size) { s with heap := s.heap.push { cls := .type "set", dict := none, data := .set #[] 0 (.fresh 0 0 (!w.params.followText "set-order")) } }) :
    wpAny (model P w) A (newSet (.type "set")) Q E s := by
  unfold newSet
  refine wpAny_bind (wpAny_byText ?_)
  dsimp only
  exact wpAny_newObj_type h
/-- all members in their order, each once -/
def SRise (Z : SK P w κ) (l : List κ) : Prop := l.Pairwise fun x y => Z.ord.blt (Z.ok x) (Z.ok y) = true
theorem sorted_members {Q : Value → Shared → Prop} (R : SetG Z s.heap a ks) (hh : A.handled = none)
    (fin : ∀ s' p (out : Array Value) (c : Nat) (l : List κ), (∀ b o, s.heap.get? b = some o → s'.heap.get? b = some o) → s'.gens = s.gens → s'.os = s.os → s.heap.objs.size ≤ p →
      s'.heap.get? p = some (seqObj "list" out c) → Paired (fun k v => Z.knd.is k v = true) l out.toList → SRise Z l → (∀ k, k ∈ l ↔ k ∈ ks) → Q (.ref p) s') :
    wpAny (model P w) A (call (.builtin "sorted") [.ref a]) Q E s := by
  obtain ⟨o, es, ep, t, ho, hx, hd, ⟨g, nd, hm⟩, ⟨hb, hf⟩, hr, hl⟩ := R
  refine Calls.call_function_entry kind_sorted plain_sorted entry_sorted (args_sorted1 _) ?_
  unfold Builtin.«sorted»
  refine wpAny_bind (m := checkCount "sorted" 1 1 _) (wpAny_pure (wpAny_bind (collect_set (A := A.in1) hh ⟨o, ho, hx.1, hd⟩ hf hb hr hl fun s1 vs k1 hz g1 o1 pm => ?_)))
  have good : ∀ v ∈ vs, Z.knd.is (Z.key v) v = true := fun v hv => by
    obtain ⟨e, he, rfl⟩ := List.mem_map.mp (pm.mem_iff.mp hv)
    exact ((g e he).iff _).mpr rfl
  have pk : (vs.map Z.key).Perm (sKeys Z es) := by
    have := pm.map Z.key
    rwa [List.map_map] at this
  have hlen : vs.length ≤ sizeLine := by
    rw [pm.length_eq, List.length_map, Array.length_toList]
    exact fits_of_scanBound hb
  refine wpAny_bind (wpAny_newList ?_ hlen)
  have hoL : (s1.heap.push (seqObj "list" vs.toArray 0)).get? s1.heap.objs.size = some (seqObj "list" vs.toArray 0) := Heap.get?_push_size _ rfl
  have keys : KeysOf Z.ord (pairsOf vs) := fun p hp => by
    rw [pairsOf_toList] at hp
    have hv := (mem_zip_self hp).2
    exact ⟨_, Z.okI (good _ hv)⟩
  refine wpAny_bind (wpAny_holding (wpAny_call_entry slot_list_sort ⟨_, hoL, rfl⟩ entry_list_sort (list_sort_treeKAny Z.one hoL keys (fun x y r e => Z.same x y r fun v hv => ⟨_, good v (e ▸ hv)⟩) hlen fun st hp hs => ⟨_, rfl, ?_⟩) (args_list_sort _)))
  have lp : (arrOf st).toList.Perm (vs.zip vs) := by rw [← pairsOf_toList]; exact Array.perm_iff_toList_perm.mp hp
  have mem : ∀ p ∈ (arrOf st).toList, p.1 = p.2 ∧ p.1 ∈ vs := fun p hq => mem_zip_self (lp.mem_iff.mp hq)
  -- what is told
  have e0 : ((arrOf st).map (·.2)).toList = (arrOf st).toList.map (·.1) := by
    rw [Array.toList_map]
    exact List.map_congr_left fun p hq => (mem p hq).1.symm
  have lk : ((arrOf st).toList.map fun p => Z.key p.1).Perm (sKeys Z es) := by
    have h1 := lp.map fun p : Value × Value => Z.key p.1
    have h2 : (vs.zip vs).map (fun p : Value × Value => Z.key p.1) = vs.map Z.key := by
      have : (vs.zip vs).map (fun p : Value × Value => Z.key p.1) = ((vs.zip vs).map Prod.fst).map Z.key := by rw [List.map_map]; rfl
      rw [this, List.map_fst_zip (Nat.le_refl _)]
    rw [h2] at h1
    exact h1.trans pk
  obtain ⟨c, hc⟩ := sortedHeap_at (vs := vs) (out := (arrOf st).map (·.2)) hoL
  refine wpAny_pure ⟨_, rfl, fin _ s1.heap.objs.size _ c ((arrOf st).toList.map fun p => Z.key p.1) (fun b u e => ?_) g1 o1 hz hc ?_ ?_ fun k => by rw [lk.mem_iff, hm k]⟩
  · have q := k1 b u e
    have hlt := Heap.lt_size q
    show (sortedHeap (s1.heap.push (seqObj "list" vs.toArray 0)) s1.heap.objs.size vs _).get? b = some u
    rw [sortedHeap_old (Nat.ne_of_lt hlt) (by rw [size_push']; exact Nat.lt_succ_of_lt hlt)]
    exact Heap.get?_push_of_some _ q
  · rw [e0]
    have : ∀ l : List (Value × Value), (∀ p ∈ l, p.1 ∈ vs) → Paired (fun k v => Z.knd.is k v = true) (l.map fun p => Z.key p.1) (l.map (·.1)) := by
      intro l
      induction l with
      | nil => intro _; exact .nil
      | cons p l ih => intro h; exact .cons (good _ (h p List.mem_cons_self)) (ih fun q hq => h q (List.mem_cons_of_mem _ hq))
    exact this _ fun p hq => (mem p hq).2
  · unfold SRise
    have nd2 : ((arrOf st).toList.map fun p => Z.key p.1).Nodup := lk.nodup_iff.mpr nd
    rw [List.pairwise_iff_getElem]
    intro i j hi hj hij
    have hi' : i < (arrOf st).size := by simpa using hi
    have hj' : j < (arrOf st).size := by simpa using hj
    have h1 := hs i j (Nat.le_of_lt hij) (by rw [← hp.size_eq]; exact hj')
    have kk : ∀ (m : Nat) (hm : m < (arrOf st).size), KK Z.ord (arrOf st) m = Z.ok (Z.key (arrOf st)[m].1) := fun m hm => by
      unfold KK
      rw [getElem?_pos (arrOf st) m hm]
      show (Z.ord.keyOf (arrOf st)[m].1).getD _ = _
      rw [Z.okI (good _ (mem _ (by simp)).2)]
      rfl
    rw [kk i hi', kk j hj'] at h1
    simp only [List.getElem_map, Array.getElem_toList]
    -- not equal, not greater
    have ne : Z.key (arrOf st)[i].1 ≠ Z.key (arrOf st)[j].1 := fun z => by
      have := (List.nodup_iff_pairwise_ne.mp nd2)
      rw [List.pairwise_iff_getElem] at this
      refine this i j hi hj hij ?_
      simp only [List.getElem_map, Array.getElem_toList]
      exact z
    cases q : Z.ord.blt (Z.ok (Z.key (arrOf st)[i].1)) (Z.ok (Z.key (arrOf st)[j].1)) with
    | true => rfl
    | false => exact absurd (Z.okJ (Z.ord.total _ _ q h1)) ne
end
end Cp

/-! A set made by a comprehension; sorted of it. -/
namespace Cp
open PySem PySem.Spec PyProof.Rows L2

def SetGO {P : Program} {w : World} {κ : Type} [DecidableEq κ] (Z : SK P w κ) (a : Addr) (ks : List κ) : HO := .ext fun h => SetG Z h a ks
section
variable {X : Cx} {κ : Type} [DecidableEq κ] {Z : SK X.prog X.w κ}
theorem setGO_ok {H : Hp} {h : Heap} {a : Addr} {ks : List κ} (R : SetG Z h a ks) : ObjOk X.prog X.w H h a (SetGO Z a ks) :=
  ⟨R, let ⟨o, _, _, _, ho, _⟩ := R; ⟨o, ho⟩, fun _ _ p k => SetG.move p k⟩
theorem setGO_get {pins : List (Addr × Obj)} {σ : L2.St} {H : Hp} {s : Shared} {a : Addr} {ks : List κ} (I : Inv X pins σ H s) (ha : H a = some (SetGO Z a ks)) : SetG Z s.heap a ks := (I.hok a _ ha).1
/-- one more is put in -/
theorem put_go {pins : List (Addr × Obj)} {σ : L2.St} {H : Hp} {s : Shared} {E : Value → Shared → Prop} {D : Addr} {ks : List κ} {k : κ} {v : Value} {Q : Value → Shared → Prop} (I : Inv X pins σ H s) (hD : H D = some (SetGO Z D ks)) (room : SRoom (ks ++ [k]))
    (r : RelV (Z.val k) v) (h : ∀ s', Inv X pins σ (upd H D (SetGO Z D (ks ++ [k]))) s' → Q .none s') : wpAny (model X.prog X.w) X.A (call (.builtin "set.add") [.ref D, v]) Q E s :=
  put_in (Z.rel r) (setGO_get I hD) room fun h' sb new => by
    have ex : ∃ u, h'.get? D = some u := let ⟨o, _, _, _, ho, _⟩ := new; ⟨o, ho⟩
    exact h _ (I.write (e := D) (t' := s.toks + 1) (by rw [hD]; trivial) (.inl rfl) (fun b u hb hu => (sb.2 b hb).trans hu) ex (setGO_ok new))
/-- {elt for target in iter if ..}: W by the turn and a measure, Nx what a turn is to reach -/
def tSs (Z : SK X.prog X.w κ) (wi : TI) (g : TG) (tt : TT) (te : TE) (vs : List Nat) : TE := fun σ H Q => wi σ H fun J H1 => ∀ D, H1 D = none → ∃ W : Nat → Nat → Hp → Prop, (∃ m, W 0 m (upd H1 D (SetGO Z D []))) ∧ ∀ i m H, W i m H →
  (J.stop i H ∧ Q (.ref D) H) ∨ (J.go i H ∧ ∃ Nx : Hp → Prop, (∀ H', Nx H' → ∃ m', m' < m ∧ W (i + 1) m' H') ∧ ∀ x H', J.yld i H x H' → g x (wipe σ vs) H' fun σ2 H2 => wipe σ2 vs = wipe σ vs ∧ tt σ2 H2 fun b H3 =>
    if b = true then te σ2 H3 fun y H4 => ∃ (ks : List κ) (k : κ), y = Z.val k ∧ H4 D = some (SetGO Z D ks) ∧ SRoom (ks ++ [k]) ∧ Nx (upd H4 D (SetGO Z D (ks ++ [k]))) else Nx H3)
theorem ss_core {pins : List (Addr × Obj)} {s : Shared} {σ : L2.St} {H : Hp} {Q : VK} {elt tg iter : Expr} {ifs : List Expr} {scope : Scope} {own : List (PySem.Str × Nat)} {pos pos' : Pos} {wi : TI} {g : TG} {tt : TT} {te : TE} {Qf : Value → Shared → Prop}
    (hc : X.calm = true) (hN : X.N.Nodup) (I : Inv X pins σ H s) (hi : PI X tg iter wi) (ok : BlkOk X.N X.env.scope scope own)
    (hg : ∀ (s : Shared) (H : Hp) (C : Addr) (cl : List (PySem.Str × Addr)) (fp : List Addr), PG (X.blk s H scope (compEnvC scope cl C X.env) fp) tg g) (ht : ∀ (s : Shared) (H : Hp) (C : Addr) (cl : List (PySem.Str × Addr)) (fp : List Addr), PTs (X.blk s H scope (compEnvC scope cl C X.env) fp) ifs tt)
    (he : ∀ (s : Shared) (H : Hp) (C : Addr) (cl : List (PySem.Str × Addr)) (fp : List Addr), PE (X.blk s H scope (compEnvC scope cl C X.env) fp) elt te) (hs : ∀ x, foldedSetIterable iter X.env x = pure x)
    (h : tSs Z wi g tt te (own.map (·.2)) σ H Q)
    (out : ∀ D C s' m H', Inv X pins σ H' s' → Q (.ref D) H' → s'.heap.Ns C m → FpOk X pins H' C → compPost (model X.prog X.w) X.A X.xe none Qf (.ref D) C (.ok .next) s') :
    wpAny (model X.prog X.w) X.A (comprehension (.SetComp elt [⟨tg, iter, ifs, 0⟩] scope pos) scope X.env pos' (newSet (.type "set")) false (eval iter X.env) none) Qf X.xe s := by
  refine wpAny_comprehension_free (use := none) rfl hs (closure_ok fun y hy e => (ok.free y hy e).elim (fun z => I.ok.has _ (.inl z)) fun z => I.ok.has _ (.inr z)) ok.kind (fun y hy e => by rw [ok.uniq y hy, e])
    (thn (hi.run pins s σ H _ I h) fun xv s1 hx => thn hx fun itv s2 ⟨it, fp, tn, J, H2, e, I2, T, st2, f2, q⟩ => ?_)
  subst e
  refine set_made (newEnv_comp ?_)
  generalize hD : s2.heap.objs.size = D
  obtain ⟨W, ⟨m0, w0⟩, turn⟩ := q D (I2.hok.fresh (Nat.le_of_eq hD))
  -- the new set
  generalize hs3 : ({ s2 with heap := s2.heap.push { cls := .type "set", dict := none, data := .set #[] 0 (.fresh 0 0 (!X.w.params.followText "set-order")) } } : Shared) = s3
  have h3 : s3.heap = s2.heap.push { cls := .type "set", dict := none, data := .set #[] 0 (.fresh 0 0 (!X.w.params.followText "set-order")) } := by rw [← hs3]
  have I3 : Inv X pins σ (upd H2 D (SetGO Z D [])) s3 := by
    rw [← hs3]
    refine I2.laid (t' := s2.toks) (fun b o e => Heap.get?_push_of_some _ e) (Nat.le_of_eq hD) (setGO_ok ?_)
    rw [← hD]
    exact setG_new Z
  have f3 : ∀ b ∈ fp, FpOk X pins (upd H2 D (SetGO Z D [])) b ∧ b < s3.heap.objs.size := fun b hb => by
    obtain ⟨o, e, _⟩ := T.obj _ _ st2 b hb
    have hlt := Heap.lt_size e
    refine ⟨⟨?_, (f2 b hb).2⟩, by rw [h3, Heap.size_push]; exact Nat.lt_succ_of_lt hlt⟩
    rw [upd_ne (by rw [← hD]; exact Nat.ne_of_lt hlt)]
    exact (f2 b hb).1
  have st3 : tn 0 s3.heap := T.keep _ _ _ st2 fun b _ o e => by rw [h3]; exact Heap.get?_push_of_some _ e
  have I4 := block_start I3 ok hN f3
  have pg := hg s3 (upd H2 D (SetGO Z D [])) s3.heap.objs.size (cellsFrom (s3.heap.objs.size + 1) scope.names (cloFrom X.env.cells scope.names [])) fp
  have pt := ht s3 (upd H2 D (SetGO Z D [])) s3.heap.objs.size (cellsFrom (s3.heap.objs.size + 1) scope.names (cloFrom X.env.cells scope.names [])) fp
  have pe := he s3 (upd H2 D (SetGO Z D [])) s3.heap.objs.size (cellsFrom (s3.heap.objs.size + 1) scope.names (cloFrom X.env.cells scope.names [])) fp
  have nfp : ∀ b ∈ fp, (upd H2 D (SetGO Z D [])) b = none := fun b hb => (f3 b hb).1.1
  show codeAny _ _ (.compStart (.SetComp elt [⟨tg, iter, ifs, 0⟩] scope pos) 0 (.ref it) (.ref D) (compEnvC scope (cellsFrom (s3.heap.objs.size + 1) scope.names (cloFrom X.env.cells scope.names [])) s3.heap.objs.size X.env)) (compPost (model X.prog X.w) X.A X.xe none Qf (.ref D) s3.heap.objs.size) { s3 with heap := pushCells (s3.heap.push { cls := .type "dict", data := .dict #[] }) scope.names }
  generalize hce : compEnvC scope (cellsFrom (s3.heap.objs.size + 1) scope.names (cloFrom X.env.cells scope.names [])) s3.heap.objs.size X.env = ce at I4 pg pt pe ⊢
  have cL : ce.locals = s3.heap.objs.size := by rw [← hce]; rfl
  generalize hH3 : upd H2 D (SetGO Z D []) = H3 at I3 I4 pg pt pe w0 nfp f3
  generalize hs4 : ({ s3 with heap := pushCells (s3.heap.push { cls := .type "dict", data := .dict #[] }) scope.names } : Shared) = s4 at I4 ⊢
  have st4 : tn 0 s4.heap := T.keep _ _ _ st3 fun b _ o e => by rw [← hs4]; exact pushCells_keeps _ _ _ _ (Heap.get?_push_of_some _ e)
  -- what the walked thing leans on stands still
  have still : ∀ {σ' : L2.St} {H' : Hp} {s' : Shared}, Inv (X.blk s3 H3 scope ce fp) [] σ' H' s' → (∀ b ∈ fp, H' b = none) → ∀ b ∈ fp, FpOk (X.blk s3 H3 scope ce fp) [] H' b := fun {_ _ _} J n b hb =>
    ⟨n b hb, (J.ok.exf b hb).1, J.ok.exfs b hb, .inl hb, fun x c e => (J.ok.exf b hb).2 x c e, fun p hp => absurd (show p ∈ ([] : List (Addr × Obj)) ++ [] from hp) (by simp)⟩
  refine PpSet.codeAny_compStart_set ?loop (T.self X.A 0 _ _ _ st4 ?loop)
  case loop =>
    refine PpSet.compLoopS_any (fun n s' => ∃ i H', Inv (X.blk s3 H3 scope ce fp) [] (wipe σ (own.map (·.2))) H' s' ∧ tn i s'.heap ∧ (∀ b ∈ fp, H' b = none) ∧ W i n H') ?_ m0 ⟨0, H3, I4, st4, nfp, w0⟩
    rintro n s5 ⟨i, H5, I5, st5, n5, w5⟩
    rcases turn i n H5 w5 with ⟨stop, qq⟩ | ⟨go, Nx, hNx, step⟩
    · refine thnF (T.done (X.blk s3 H3 scope ce fp) rfl rfl rfl hc i [] s5 _ H5 (fun _ _ => False) I5 (still I5 n5) st5 stop) fun r s6 ⟨hr, I6⟩ => ?_
      subst hr
      have I7 : Inv X pins σ H5 s6 := I3.call' (ch := fp) I6.os I6.base I6.hok I6.bare fun b hb => ⟨(f3 b hb).1.2.2.2.1, (f3 b hb).1.2.1, (f3 b hb).1.2.2.2.2.1, (f3 b hb).1.2.2.2.2.2⟩
      have nC : H5 ce.locals = none := I6.free
      obtain ⟨m, hn, _⟩ := I6.loc
      have hn : s6.heap.Ns ce.locals m := hn
      rw [cL] at nC hn
      exact out D s3.heap.objs.size s6 m H5 I7 qq hn (I3.fpOk (Nat.le_refl _) nC)
    · refine thnF (T.item (X.blk s3 H3 scope ce fp) rfl rfl rfl hc i [] s5 _ H5 (fun _ _ => False) I5 (still I5 n5) st5 go) fun r s6 ⟨u, hr, h6⟩ => ?_
      subst hr
      refine thnF h6 fun _ s7 ⟨x, H7, I7, r7, y7, st7, n7⟩ => ?_
      refine thnF (pg.run _ s7 _ H7 x u _ (I7.pinned (still I7 n7) (T.obj _ _ st7)) r7 (step x H7 y7)) fun _ s8 ⟨σ8, H8, I8, hw8, q8⟩ => ?_
      refine thnF (pt.run _ s8 σ8 H8 _ I8 q8) fun b s9 ⟨H9, I9, q9⟩ => ?_
      -- the turn's end
      have fin : ∀ {s' : Shared} {H' : Hp}, Inv (X.blk s3 H3 scope ce fp) ([] ++ pinsAt fp s7.heap) σ8 H' s' → Nx H' → ∃ m, m < n ∧ ∃ i H', Inv (X.blk s3 H3 scope ce fp) [] (wipe σ (own.map (·.2))) H' s' ∧ tn i s'.heap ∧ (∀ b ∈ fp, H' b = none) ∧ W i m H' := fun {s' H'} J nx => by
        obtain ⟨m', hm, w'⟩ := hNx H' nx
        have pin : ∀ b ∈ fp, ∀ o, s7.heap.get? b = some o → s'.heap.get? b = some o ∧ H' b = none := fun b hb o e =>
          let z := J.pin (b, o) (List.mem_append_right _ (List.mem_append_right _ (mem_pinsAt hb e)))
          ⟨z.1, z.2.1⟩
        refine ⟨m', hm, i + 1, H', (J.unpinned (pins := [])).weak (by rw [← hw8, wipe_length]) (fun j v e => ?_), T.keep _ _ _ st7 fun b hb o e => (pin b hb o e).1, fun b hb => ?_, w'⟩
        · rw [← hw8] at e
          exact (wipe_some e).1
        · obtain ⟨o, e, _⟩ := T.obj _ _ st7 b hb
          exact (pin b hb o e).2
      cases b with
      | false =>
        rw [if_neg Bool.false_ne_true] at q9 ⊢
        exact fin I9 q9
      | true =>
        rw [if_pos rfl] at q9 ⊢
        refine thnF (pe.run _ s9 σ8 H9 _ I9 q9) fun z s10 ⟨yv, H10, I10, r10, ks, k, ey, hD10, room, nx⟩ => ?_
        subst ey
        exact put_go (X := X.blk s3 H3 scope ce fp) (Z := Z) I10 hD10 room r10 fun s11 I11 => fin I11 nx
theorem pe_ss {elt tg iter : Expr} {ifs : List Expr} {scope : Scope} {own : List (PySem.Str × Nat)} {pos : Pos} {wi : TI} {g : TG} {tt : TT} {te : TE} (Z : SK X.prog X.w κ) (hc : X.calm = true) (hN : X.N.Nodup) (hi : PI X tg iter wi) (ok : BlkOk X.N X.env.scope scope own)
    (hg : ∀ (s : Shared) (H : Hp) (C : Addr) (cl : List (PySem.Str × Addr)) (fp : List Addr), PG (X.blk s H scope (compEnvC scope cl C X.env) fp) tg g) (ht : ∀ (s : Shared) (H : Hp) (C : Addr) (cl : List (PySem.Str × Addr)) (fp : List Addr), PTs (X.blk s H scope (compEnvC scope cl C X.env) fp) ifs tt)
    (he : ∀ (s : Shared) (H : Hp) (C : Addr) (cl : List (PySem.Str × Addr)) (fp : List Addr), PE (X.blk s H scope (compEnvC scope cl C X.env) fp) elt te) (hs : ∀ x, foldedSetIterable iter X.env x = pure x) :
    PE X (.SetComp elt [⟨tg, iter, ifs, 0⟩] scope pos) (tSs Z wi g tt te (own.map (·.2))) := ⟨fun pins s σ H Q I h => by
  rw [PpSet.eval_SetComp]
  refine ss_core hc hN I hi ok hg ht he hs h fun D C s' m H' J q hn ⟨f0, f1, _, f3, f4, f5⟩ => ⟨m, hn, fun h2 sb => ⟨.ref D, H', ?_, rfl, q⟩⟩
  exact J.turned (t' := s'.toks) (fun b o hb e => (sb.2 b hb).trans e) f0 f1 f3 f4 f5⟩
/-- sorted of a set -/
def rSs (Z : SK X.prog X.w κ) : List V → Hp → VK → Prop := fun vs H Q => ∃ (a : Addr) (ks : List κ), vs = [V.ref a] ∧ H a = some (SetGO Z a ks) ∧ (∀ l : List κ, l.Nodup → (∀ x ∈ l, x ∈ ks) → l.length ≤ sizeLine) ∧
  ∀ (l : List κ) (p : Addr), SRise Z l → (∀ k, k ∈ l ↔ k ∈ ks) → H p = none → Q (.ref p) (upd H p (.lst (l.map Z.val)))
theorem rise_nodup {l : List κ} (h : SRise Z l) : l.Nodup := by
  refine List.nodup_iff_pairwise_ne.mpr (h.imp fun {x y} q e => ?_)
  rw [e, Z.ord.irrefl] at q
  exact absurd q (by decide)
theorem vals_paired : ∀ {l : List κ} {us : List Value}, Paired (fun k v => Z.knd.is k v = true) l us → Vals (l.map Z.val) us
  | _, _, .nil => .nil
  | _, _, .cons r t => .cons (Z.ler r) (vals_paired t)
theorem cr_ss (hc : X.calm = true) : CallR X (.builtin "sorted") (rSs Z) := by
  intro pins s σ H vs us Q I r h
  obtain ⟨a, ks, rfl, ha, hl, q⟩ := h
  rw [Vals.ref1 r]
  refine sorted_members (setGO_get I ha) (I.ok.hd hc) fun s' p out c l k g o hp hg hi hs hm => ?_
  have hlen : (l.map Z.val).length ≤ sizeLine := by rw [List.length_map]; exact hl l (rise_nodup hs) fun x hx => (hm x).mp hx
  have hn : H p = none := I.hok.fresh hp
  have J : Inv X pins σ (upd H p (.lst (l.map Z.val))) { s with heap := s'.heap, gens := s'.gens, drawn := s'.drawn, toks := s'.toks } :=
    I.call (ch := []) (Un.laid k hp hn) (I.hok.laid k hp ⟨hlen, out.toList, c, vals_paired hi, hg⟩) (by rw [g]; exact I.bare) (fun _ z => nomatch z)
  have e : s' = { s with heap := s'.heap, gens := s'.gens, drawn := s'.drawn, toks := s'.toks } := by
    cases s'; cases s; cases o; rfl
  rw [e]
  exact ⟨.ref p, _, J, rfl, q l p hs hm hn⟩
end

/-! ### ints, texts -/
def intSK (P : Program) (w : World) : SK P w Int where
  knd := PySem.intKind P w
  key v := match v with | .int k _ => k | _ => 0
  key_of := fun {k v} h => by obtain ⟨t, rfl⟩ := Value.isInt_shape h; rfl
  scan := fun {k v} h => by obtain ⟨t, rfl⟩ := Value.isInt_shape h; rfl
  val := .int
  rel := fun {k v} ⟨t, h⟩ => by rw [h]; exact intKind_is P w k t
  ler := fun {k v} h => Value.isInt_shape h
  ord := PyProof.Rows.intKind
  one := intKind_oneLt
  ok := id
  okI := fun {k v} h => by obtain ⟨t, rfl⟩ := Value.isInt_shape h; rfl
  okJ := id
  same := fun a b vs h => by
    have : ∀ v ∈ a :: b :: vs, ∃ n t, v = Value.int n t := fun v hv => let ⟨k, hk⟩ := h v hv; ⟨k, Value.isInt_shape hk⟩
    exact keyKind_ints (intsAre_map _ this)
def strSK (P : Program) (w : World) : SK P w Str where
  knd := PySem.strKind P w
  key v := match v with | .str k _ => k | _ => Str.empty
  key_of := fun {k v} h => by obtain ⟨t, rfl⟩ := Value.isStrOf_shape h; rfl
  scan := fun {k v} h => by obtain ⟨t, rfl⟩ := Value.isStrOf_shape h; rfl
  val := .str
  rel := fun {k v} ⟨t, h⟩ => by rw [h]; exact strKind_is P w k t
  ler := fun {k v} h => Value.isStrOf_shape h
  ord := PyProof.Rows.strKind
  one := strKind_oneLt
  ok := fun k => k.cps.toList
  okI := fun {k v} h => by obtain ⟨t, rfl⟩ := Value.isStrOf_shape h; rfl
  okJ := fun {k j} h => by cases k; cases j; simp only [Str.mk.injEq]; exact Array.toList_inj.mp h
  same := fun a b vs h => by
    have : ∀ v ∈ a :: b :: vs, ∃ n t, v = Value.str n t := fun v hv => let ⟨k, hk⟩ := h v hv; ⟨k, Value.isStrOf_shape hk⟩
    exact keyKind_strs (strsAre_map _ this)
end Cp

/-! sorted({..}): the compact run's answer. -/
namespace Cp
open PySem L2 PyProof.Rows

/-! ### lists that rise -/
theorem rise_unique {α : Type} {r : α → α → Prop} (ir : ∀ x, ¬ r x x) (as : ∀ x y, r x y → r y x → False) : ∀ {a b : List α}, a.Pairwise r → b.Pairwise r → (∀ x, x ∈ a ↔ x ∈ b) → a = b
  | [], [], _, _, _ => rfl
  | [], y :: b, _, _, h => absurd ((h y).mpr List.mem_cons_self) (by simp)
  | x :: a, [], _, _, h => absurd ((h x).mp List.mem_cons_self) (by simp)
  | x :: a, y :: b, h1, h2, h => by
    obtain ⟨p1, q1⟩ := List.pairwise_cons.mp h1
    obtain ⟨p2, q2⟩ := List.pairwise_cons.mp h2
    have e : x = y := by
      rcases List.mem_cons.mp ((h x).mp List.mem_cons_self) with e | hx
      · exact e
      · rcases List.mem_cons.mp ((h y).mpr List.mem_cons_self) with e | hy
        · exact e.symm
        · exact (as x y (p1 y hy) (p2 x hx)).elim
    subst e
    rw [rise_unique ir as q1 q2 fun z => ?_]
    have hz := h z
    rw [List.mem_cons, List.mem_cons] at hz
    refine ⟨fun m => ?_, fun m => ?_⟩
    · rcases hz.mp (.inr m) with e | m'
      · subst e; exact (ir _ (p1 _ m)).elim
      · exact m'
    · rcases hz.mpr (.inr m) with e | m'
      · subst e; exact (ir _ (p2 _ m)).elim
      · exact m'
theorem mem_dups {α : Type} [DecidableEq α] {x : α} : ∀ {l : List α}, x ∈ uniq l ↔ x ∈ l
  | [] => Iff.rfl
  | y :: l => by
    show x ∈ (if y ∈ uniq l then uniq l else y :: uniq l) ↔ _
    split
    · rename_i h
      rw [mem_dups (l := l), List.mem_cons]
      exact ⟨.inr, fun z => z.elim (fun e => e ▸ mem_dups.mp h) id⟩
    · rw [List.mem_cons, List.mem_cons, mem_dups (l := l)]
theorem nodup_dups {α : Type} [DecidableEq α] : ∀ l : List α, (uniq l).Nodup
  | [] => .nil
  | y :: l => by
    show (if y ∈ uniq l then uniq l else y :: uniq l).Nodup
    split
    · exact nodup_dups l
    · rename_i h
      exact List.nodup_cons.mpr ⟨h, nodup_dups l⟩
theorem setI_lt (ns : List Int) : (setI ns).Pairwise (· < ·) := lt_of_le_nodup _ (sortI_le _) ((sortI_perm _).nodup_iff.mpr (nodup_dups ns))
theorem setI_mem {ns : List Int} {k : Int} : k ∈ setI ns ↔ k ∈ ns := by
  unfold setI
  rw [(sortI_perm _).mem_iff, mem_dups]
theorem leS_total (a b : Str) : (leS a b || leS b a) = true := by
  unfold leS
  cases h : decide (b.cps.toList < a.cps.toList) with
  | false => rfl
  | true =>
    have h' := of_decide_eq_true h
    rw [decide_eq_false fun z => List.lt_irrefl _ (List.lt_trans h' z)]
    rfl
theorem leS_trans (a b c : Str) (h1 : leS a b = true) (h2 : leS b c = true) : leS a c = true := by
  unfold leS at *
  simp only [Bool.not_eq_true', decide_eq_false_iff_not] at *
  exact fun z => h1 (List.lt_of_le_of_lt (List.not_lt.mp h2) z)
def ltT (a b : Str) : Prop := a.cps.toList < b.cps.toList
theorem setT_lt (ss : List Str) : (setT ss).Pairwise ltT := by
  have h := List.pairwise_mergeSort (le := leS) leS_trans leS_total (uniq ss)
  have nd : (setT ss).Nodup := (List.mergeSort_perm _ _).nodup_iff.mpr (nodup_dups ss)
  have h : (setT ss).Pairwise fun a b => leS a b = true := h
  refine (h.and (List.nodup_iff_pairwise_ne.mp nd)).imp fun {a b} ⟨q, ne⟩ => ?_
  unfold leS at q
  simp only [Bool.not_eq_true', decide_eq_false_iff_not] at q
  have q := List.not_lt.mp q
  by_cases hlt : a.cps.toList < b.cps.toList
  · exact hlt
  · exact absurd (List.le_antisymm q (List.not_lt.mp hlt)) fun e => ne (by cases a; cases b; simp only [Str.mk.injEq]; exact Array.toList_inj.mp e)
theorem setT_mem {ss : List Str} {k : Str} : k ∈ setT ss ↔ k ∈ ss := by
  unfold setT
  rw [(List.mergeSort_perm _ _).mem_iff, mem_dups]
theorem nodup_short {α : Type} [DecidableEq α] : ∀ {l m : List α}, l.Nodup → (∀ x ∈ l, x ∈ m) → l.length ≤ m.length
  | [], _, _, _ => Nat.zero_le _
  | x :: l, m, h, w => by
    obtain ⟨h1, h2⟩ := List.nodup_cons.mp h
    have hx := w x List.mem_cons_self
    have := nodup_short (l := l) (m := m.erase x) h2 fun y hy => (List.mem_erase_of_ne fun e : y = x => h1 (e ▸ hy)).mpr (w y (List.mem_cons_of_mem _ hy))
    rw [List.length_erase_of_mem hx] at this
    have hp : 0 < m.length := List.length_pos_of_mem hx
    rw [List.length_cons]
    omega
/-- what a comprehension has made stays -/
theorem compX_pre {c : Src} {set : D → Ev → Mem → R (Ev × Mem)} {cond : Ev → Mem → R (Bool × Mem)} {elt : Ev → Mem → RD} {s : Ev} : ∀ {n i : Nat} {M : Mem} {acc : List D} {q : List D × Mem}, compX c set cond elt s n i M acc = .ok q → ∃ more, q.1 = acc ++ more
  | 0, _, _, _, _, h => by cases h
  | n + 1, i, M, acc, q, h => by
    have h : R.of (c.at_ M i) _ = .ok q := h
    obtain ⟨o, ho, h⟩ := of_ok h
    cases o with
    | none => cases h; exact ⟨[], (List.append_nil _).symm⟩
    | some x =>
      obtain ⟨p, e4, e5⟩ := bind_ok h
      obtain ⟨more, hm⟩ := compX_pre e5
      unfold turnC at e4
      obtain ⟨p1, f1, e4⟩ := bind_ok e4
      obtain ⟨q1, f2, e4⟩ := bind_ok e4
      cases hb : q1.1 with
      | false =>
        rw [hb] at e4
        cases e4
        exact ⟨more, hm⟩
      | true =>
        rw [hb] at e4
        obtain ⟨r1, f3, e4⟩ := bind_ok e4
        obtain ⟨hlt, e4⟩ := when_ok e4
        cases e4
        exact ⟨r1.1 :: more, by rw [hm, List.append_assoc]; rfl⟩
section
variable {K : PySem.W.Frag} {set : D → Ev → Mem → R (Ev × Mem)} {cond : Ev → Mem → R (Bool × Mem)} {elt : Ev → Mem → RD} {ri : Ev → Mem → R (Src × Mem)} {own : List Nat} {t : L2.St} {H : Hp} {Q : VK}
/-- .. of one kind of keys -/
theorem ss_run {X : Cx} {κ : Type} [DecidableEq κ] (Z : SK X.prog X.w κ) (dv : κ → D) (hv : ∀ {js H k v}, Rep X.K js H (dv k) v → v = Z.val k) (hr : ∀ (js H) (l : List κ), Reps X.K js H (l.map dv) (l.map Z.val)) (inj : ∀ {a b}, dv a = dv b → a = b)
    {c : Src} {J : L2.It} {js1 : List Addr} {H1 : Hp} {M1 : Mem} {s : Ev} {ks0 : List κ} {Mq : Mem} {ds : List D} (T1 : Tie X.K js1 H1 M1) (S1 : RepS X.K js1 H1 s t) (src : IsSrc X.K js1 H1 c J)
    (e0 : compX c set cond elt (wipeE s own) wf 0 M1 [] = .ok (ks0.map dv, Mq)) (hl : ks0.length < 4096) (hs : ∀ l : List κ, SRise Z l → (∀ k, k ∈ l ↔ k ∈ ks0) → ds = l.map dv)
    (fin : ∀ js' H' v, Ext js1 H1 js' H' → Tie X.K js' H' (Mq ++ [.lst ds]) → Rep X.K js' H' (.ref Mq.length) v → Q v H') :
    ∀ D, H1 D = none → ∃ W : Nat → Nat → Hp → Prop, (∃ m, W 0 m (upd H1 D (SetGO Z D []))) ∧ ∀ i m H, W i m H →
  (J.stop i H ∧ rSs Z [.ref D] H Q) ∨ (J.go i H ∧ ∃ Nx : Hp → Prop, (∀ H', Nx H' → ∃ m', m' < m ∧ W (i + 1) m' H') ∧ ∀ x H', J.yld i H x H' → gG X.K set x (L2.wipe t own) H' fun t2 H2 => L2.wipe t2 own = L2.wipe (L2.wipe t own) own → L2.wipe t2 own = L2.wipe t own ∧ tT X.K cond t2 H2 fun b H3 =>
    if b = true then tE X.K elt t2 H3 fun y H4 => ∃ (ks : List κ) (k : κ), y = Z.val k ∧ H4 D = some (SetGO Z D ks) ∧ SRoom (ks ++ [k]) ∧ Nx (upd H4 D (SetGO Z D (ks ++ [k]))) else Nx H3) := by
  intro D hD
  refine ⟨fun i m H' => ∃ js' M' ks, Beside X.K js1 H1 D js' H' M' (SetGO Z D ks) ∧ compX c set cond elt (wipeE s own) m i M' (ks.map dv) = .ok (ks0.map dv, Mq),
    ⟨wf, js1, M1, [], Beside.start T1 hD trivial, e0⟩, ?_⟩
  rintro i m H' ⟨js', M', ks, B, e2⟩
  cases m with
  | zero => cases e2
  | succ m =>
    have e2 : R.of (c.at_ M' i) _ = .ok (ks0.map dv, Mq) := e2
    obtain ⟨o, ho, e2⟩ := of_ok e2
    cases o with
    | none =>
      have e3 : ks.map dv = ks0.map dv ∧ M' = Mq := ⟨congrArg (fun q : R (List Cp.D × Mem) => match q with | .ok q => q.1 | _ => []) e2, congrArg (fun q : R (List Cp.D × Mem) => match q with | .ok q => q.2 | _ => []) e2⟩
      obtain ⟨e3, rfl⟩ := e3
      have ek : ks = ks0 := List.map_inj_right (fun _ _ => inj) |>.mp e3
      subst ek
      refine .inl ⟨(src js' H' M' B.ext B.tie i).1 ho, D, ks, rfl, B.at_, fun l nd w => ?_, fun l p hl2 hm hp => ?_⟩
      · have := nodup_short nd w
        rw [sizeLine_eq]; omega
      · have ed := hs l hl2 hm
        obtain ⟨x, T'⟩ := B.tie.new hp (RepO.lst (hr js' H' l))
        rw [← ed] at T'
        refine fin _ _ (.ref p) (B.ext.trans B.tie x) T' (.ref ?_)
        rw [List.getElem?_append_right (by rw [B.tie.len]; exact Nat.le_refl _), B.tie.len, Nat.sub_self]
        rfl
    | some x =>
      obtain ⟨p, e4, e5⟩ := bind_ok e2
      obtain ⟨hgo, hy⟩ := (src js' H' M' B.ext B.tie i).2 x ho
      refine .inr ⟨hgo, fun H'' => ∃ js' M' ks, Beside X.K js1 H1 D js' H'' M' (SetGO Z D ks) ∧ compX c set cond elt (wipeE s own) m (i + 1) M' (ks.map dv) = .ok (ks0.map dv, Mq),
        fun H'' w => ⟨m, Nat.lt_succ_self _, w⟩, fun v H2 y => ?_⟩
      obtain ⟨js2, x2, T2, r2⟩ := hy v H2 y
      have B2 := B.go x2 T2
      unfold turnC at e4
      obtain ⟨p1, f1, e4⟩ := bind_ok e4
      obtain ⟨q1, f2, e4⟩ := bind_ok e4
      refine ⟨js2, M', wipeE s own, x, T2, (S1.ext T1 B2.ext).wipe own, r2, p1.1, p1.2, f1, ?_⟩
      intro js3 H3 t3 x3 T3 S3 hw
      refine ⟨hw.trans (wipe_wipe _ _), js3, p1.2, p1.1, T3, S3, q1.1, q1.2, f2, ?_⟩
      intro js4 H4 b x4 T4 eb
      have eb : q1.1 = b := eb
      subst eb
      have B4 := (B2.go x3 T3).go x4 T4
      cases hb : q1.1 with
      | false =>
        rw [hb] at e4
        cases e4
        rw [if_neg Bool.false_ne_true]
        exact ⟨js4, q1.2, ks, B4, e5⟩
      | true =>
        rw [hb] at e4
        obtain ⟨r1, f3, e4⟩ := bind_ok e4
        obtain ⟨hlt, e4⟩ := when_ok e4
        cases e4
        rw [if_pos rfl]
        refine ⟨js4, q1.2, p1.1, T4, S3.ext T3 x4, r1.1, r1.2, f3, fun js5 H5 y5 x5 T5 r5 => ?_⟩
        have B5 := B4.go x5 T5
        obtain ⟨more, hm⟩ := compX_pre e5
        have hm : ks0.map dv = ks.map dv ++ [r1.1] ++ more := hm
        -- the item is a key
        obtain ⟨k, hk⟩ : ∃ k, r1.1 = dv k := by
          have : r1.1 ∈ ks0.map dv := by rw [hm]; simp
          obtain ⟨k, _, e⟩ := List.mem_map.mp this
          exact ⟨k, e.symm⟩
        rw [hk] at r5 e5 hm
        have len : (ks ++ [k]).length ≤ ks0.length := by
          have := congrArg List.length hm
          simp only [List.length_map, List.length_append, List.length_singleton] at this
          rw [List.length_append, List.length_singleton]
          omega
        refine ⟨ks, k, hv r5, B5.at_, fun l nd w => ?_, js5, r1.2, ks ++ [k], B5.put hD trivial, ?_⟩
        · have := nodup_short nd w
          show _ < 4096
          omega
        · rw [List.map_append]; exact e5
end
theorem ints_map : ∀ {xs : List D} {ns : List Int}, intsD xs = some ns → xs = ns.map D.int := fun h => ints_of h
theorem strs_map : ∀ {xs : List D} {ns : List Str}, strsD xs = some ns → xs = ns.map D.str := fun h => strs_of h
theorem pe_ssc {X : Cx} {elt tg iter : Expr} {ifs : List Expr} {scope : Scope} {own : List Nat} {N : List Str} {p1 p2 p : Pos} {set : D → Ev → Mem → R (Ev × Mem)} {cond : Ev → Mem → R (Bool × Mem)} {el : Ev → Mem → RD} {ri : Ev → Mem → R (Src × Mem)}
    (hc : X.calm = true) (hN : X.N.Nodup) (hg1 : L2.Gl X "sorted") (hm1 : X.mg "sorted" = none) (hi : PI X tg iter (tI X.K ri)) (ok : BlkOk X.N X.env.scope scope (own.map fun i => (N.getD i Str.empty, i)))
    (hg : ∀ (s : Shared) (H : Hp) (C : Addr) (cl : List (PySem.Str × Addr)) (fp : List Addr), PG (X.blk s H scope (compEnvC scope cl C X.env) fp) tg (fun v t H Q => gG X.K set v t H fun t2 H2 => L2.wipe t2 own = L2.wipe t own → Q t2 H2))
    (ht : ∀ (s : Shared) (H : Hp) (C : Addr) (cl : List (PySem.Str × Addr)) (fp : List Addr), PTs (X.blk s H scope (compEnvC scope cl C X.env) fp) ifs (tT X.K cond))
    (he : ∀ (s : Shared) (H : Hp) (C : Addr) (cl : List (PySem.Str × Addr)) (fp : List Addr), PE (X.blk s H scope (compEnvC scope cl C X.env) fp) elt (tE X.K el)) (hs : ∀ x, foldedSetIterable iter X.env x = pure x) :
    PE X (.Call (.Name "sorted" p1) [.SetComp elt [⟨tg, iter, ifs, 0⟩] scope p2] [] p) (tE X.K fun s M => (ri s M).bind fun p => (compX p.1 set cond el (wipeE s own) wf 0 p.2 []).bind fun q => R.of (setD q.1) fun ks => R.when (q.1.length < 4096) (newM q.2 (.lst ks))) := by
  have ow : (own.map fun i => (N.getD i Str.empty, i)).map (·.2) = own := by rw [List.map_map]; exact List.map_id' own
  have s1 := pe_callB (pos := p) (p := p1) (cr_ss (Z := intSK X.prog X.w) hc) hg1 hm1 (by decide +kernel) (pa_cons (pe_ss (pos := p2) (intSK X.prog X.w) hc hN hi ok hg ht he hs) pa_nil)
  have s2 := pe_callB (pos := p) (p := p1) (cr_ss (Z := strSK X.prog X.w) hc) hg1 hm1 (by decide +kernel) (pa_cons (pe_ss (pos := p2) (strSK X.prog X.w) hc hN hi ok hg ht he hs) pa_nil)
  rw [ow] at s1 s2
  refine pe_weak (Cp.pe_or s1 s2) fun t H Q ⟨js, M, s, T, S, g⟩ => ?_
  obtain ⟨d, M2, e, fin⟩ := g
  obtain ⟨⟨c, M1⟩, er, e⟩ := bind_ok e
  obtain ⟨⟨xs, Mq⟩, ec, e⟩ := bind_ok e
  obtain ⟨ds, ed, e⟩ := of_ok e
  obtain ⟨hl, e⟩ := when_ok e
  cases e
  unfold setD at ed
  cases hi : intsD xs with
  | some ns =>
    rw [hi] at ed
    cases ed
    have := ints_map hi
    subst this
    refine .inl ⟨js, M, s, T, S, c, M1, er, fun js1 H1 J x1 T1 src => ?_⟩
    refine ss_run (intSK X.prog X.w) D.int (fun r => by cases r; rfl) (fun js H l => Reps.of_ints l) (fun h => by cases h; rfl) T1 (S.ext T x1) src ec (by simpa using hl) (fun l h1 h2 => ?_) fun js' H' v x' T' r' => fin js' H' v (x1.trans T1 x') T' r'
    have h1 : l.Pairwise (· < ·) := h1.imp fun {a b} q => of_decide_eq_true (p := a < b) q
    rw [rise_unique (r := fun x y : Int => x < y) (fun x => Int.lt_irrefl x) (fun x y a b => by omega) h1 (setI_lt ns) fun k => by rw [setI_mem]; exact h2 k]
  | none =>
    rw [hi] at ed
    obtain ⟨ss, hss, rfl⟩ := Option.map_eq_some_iff.mp ed
    have := strs_map hss
    subst this
    refine .inr ⟨js, M, s, T, S, c, M1, er, fun js1 H1 J x1 T1 src => ?_⟩
    refine ss_run (strSK X.prog X.w) D.str (fun r => by cases r; rfl) (fun js H l => Reps.of_strs l) (fun h => by cases h; rfl) T1 (S.ext T x1) src ec (by simpa using hl) (fun l h1 h2 => ?_) fun js' H' v x' T' r' => fin js' H' v (x1.trans T1 x') T' r'
    have h1 : l.Pairwise ltT := h1.imp fun {a b} q => of_decide_eq_true (p := a.cps.toList < b.cps.toList) q
    rw [rise_unique (r := ltT) (fun x => List.lt_irrefl _) (fun x y a b => List.lt_irrefl _ (List.lt_trans a b)) h1 (setT_lt ss) fun k => by rw [setT_mem]; exact h2 k]
end Cp

/-! Expressions: the compact run's answer is the walk's. -/
namespace Cp
open PySem L2

section
variable {G : Mdl} {N : List Str} {n : Nat}
theorem map_name {α β : Type} {o : Option α} {g : α → β} {x : β} (h : o.map g = some x) : ∃ a, o = some a ∧ g a = x := Option.map_eq_some_iff.mp h
theorem rd_lit {K : PySem.W.Frag} {js : List Addr} {H : Hp} {l : Lit} {k : Const} (h : litM l k = true) : ∃ v, Rep K js H l.d v ∧ match k with | .none => v = V.non | .bool b => v = .bl b | .int i => v = .int i | .str x => v = .str x | _ => False := by
  cases l <;> cases k <;> first | exact absurd h Bool.false_ne_true | skip
  · exact ⟨_, .non, rfl⟩
  · rename_i a b
    have : a = b := by simpa [litM] using h
    subst this; exact ⟨_, .bl _, rfl⟩
  · rename_i a b
    have : a = b := by simpa [litM] using h
    subst this; exact ⟨_, .int _, rfl⟩
  · rename_i a b
    have : a = b := by simpa [litM] using h
    subst this; exact ⟨_, .str _, rfl⟩
theorem rd_fixed {K : PySem.W.Frag} {t : St} {H : Hp} {Q : VK} {d : D} {v : V} (w : ∀ js, Rep K js H d v) (h : tE K (fun _ M => .ok (d, M)) t H Q) : tC v t H Q := by
  obtain ⟨js, M, s, T, S, g⟩ := h
  exact g.ok .refl T (w js)
theorem pe_lit {X : Cx} {l : Lit} {k : Const} {j : Option Str} {pos : Pos} {kk} (h : litM l k = true) : PE X (.Constant k kk pos) (tE X.K fun _ M => .ok (l.d, M)) := by
  cases l <;> cases k <;> first | exact absurd h Bool.false_ne_true | skip
  · exact pe_weak pe_non fun s H Q q => rd_fixed (fun _ => .non) q
  · rename_i a b
    have : a = b := by simpa [litM] using h
    subst this; exact pe_weak pe_bl fun s H Q q => rd_fixed (fun _ => .bl _) q
  · rename_i a b
    have : a = b := by simpa [litM] using h
    subst this; exact pe_weak pe_int fun s H Q q => rd_fixed (fun _ => .int _) q
  · rename_i a b
    have : a = b := by simpa [litM] using h
    subst this; exact pe_weak pe_str fun s H Q q => rd_fixed (fun _ => .str _) q
theorem rd_var {K : PySem.W.Frag} {t : St} {H : Hp} {Q : VK} {i : Nat} (h : tE K (fun s M => match s[i]? with | some (some d) => .ok (d, M) | _ => .bad) t H Q) : tVar i t H Q := by
  obtain ⟨js, M, s, T, S, g⟩ := h
  have g : Go K (Rep K) js H (match s[i]? with | some (some d) => .ok (d, M) | _ => .bad) Q := g
  cases e : s[i]? with
  | none => rw [e] at g; exact g.bad
  | some o =>
    rw [e] at g
    cases o with
    | none => exact g.bad
    | some d =>
      obtain ⟨v, h1, h2⟩ := S.at_ i d e
      exact ⟨v, h1, g.ok .refl T h2⟩
theorem isi_ty {x : Str} {t : String} (h : x = Str.ofString t) (m : ["int", "bool", "str", "tuple", "list", "dict"].contains t = true) : bootBuiltins x = some (.type t) ∧ x ∈ bltNames ∧ x ≠ "__name__" ∧ (x == ("__debug__" : Str)) = false := by
  subst h
  simp only [List.contains_cons, List.contains_nil, Bool.or_false, Bool.or_eq_true, beq_iff_eq] at m
  rcases m with rfl | rfl | rfl | rfl | rfl | rfl <;> exact ⟨by decide +kernel, by decide +kernel, by decide +kernel, by decide +kernel⟩
theorem lam_lc {K : PySem.W.Frag} {set : D → Ev → Mem → R (Ev × Mem)} {cond : Ev → Mem → R (Bool × Mem)} {elt : Ev → Mem → RD} {ri : Ev → Mem → R (Src × Mem)} {own : List Nat} {N : List Str} {t : St} {H : Hp} {Q : VK}
    (h : tE K (fun s M => (ri s M).bind fun p => (compX p.1 set cond elt (wipeE s own) wf 0 p.2 []).bind fun q => newM q.2 (.lst q.1)) t H Q) :
    tLc (tI K ri) (fun v t H Q => gG K set v t H fun t2 H2 => L2.wipe t2 own = L2.wipe t own → Q t2 H2) (tT K cond) (tE K elt) ((own.map fun i => (N.getD i Str.empty, i)).map (·.2)) t H Q := by
  have : (own.map fun i => (N.getD i Str.empty, i)).map (·.2) = own := by rw [List.map_map]; exact List.map_id' own
  rw [this]
  exact lc_run h
theorem pt_tru {X : Cx} {a : Expr} {ta : TE} (ha : PE X a ta) (he : ∀ whole, isTrue a X.env whole = (do let v ← whole; standAt a.pos; holding [v] (truthy v))) :
    PT X a (fun t H Q => ta t H fun x H1 => ∃ js M d b, Tie X.K js H1 M ∧ Rep X.K js H1 d x ∧ truth M d = some b ∧ Q b H1) :=
  ⟨fun pins s σ H Q I h => PyProof.Rows.isTrue_plain (thn (ha.run pins s σ H _ I h) fun v s1 ⟨x, H1, I1, r1, q1⟩ => tru_any pins s1 σ H1 x v Q I1 r1 q1) (he _)⟩
theorem tv {c : Scope} {f : Str → Bool} {e : E} {x : Expr} (h : mT G N c f (.val e) x = true) : mE G N c f e x = true := by
  have h : ((noTst x || isCmp x) && mE G N c f e x) = true := h
  rw [Bool.and_eq_true] at h
  exact h.2
theorem ptv {c : Scope} {f : Str → Bool} {X : Cx} {e : E} {x : Expr} (pe : PE X x (tE X.K (ev G (callF G n) e))) (h : mT G N c f (.val e) x = true) (w : ∀ l o r p, x = .Compare l o r p → False) : PT X x (tT X.K fun s M => evT G (callF G n) (.val e) s M) := by
  have h : ((noTst x || isCmp x) && mE G N c f e x) = true := h
  rw [Bool.and_eq_true, Bool.or_eq_true] at h
  rcases h.1 with hn | hn
  · exact pt_weak (pt_tru pe (tst1 hn _)) fun s H Q q => rd_truth q
  · cases x with
    | Compare l o r p => exact (w l o r p rfl).elim
    | _ => exact absurd hn Bool.false_ne_true
mutual
theorem sE : ∀ (e : E) {c : Scope} {f : Str → Bool} {X : Cx} (k : Okx G N c f n X) (x : Expr), mE G N c f e x = true → PE X x (tE X.K (ev G (callF G n) e))
  | .var i, c, f, X, k, x, h => by
    cases x with
    | Name y p =>
      have h : (decide (N[i]? = some y) && visB c y && okN y) = true := h
      simp only [Bool.and_eq_true, decide_eq_true_eq] at h
      obtain ⟨⟨h1, h2⟩, h3⟩ := h
      obtain ⟨o1, o2, _⟩ := ok_of h3
      exact pe_weak (pe_var (k.ix h1) (k.vis h2) o1 o2) fun s H Q q => rd_var q
    | _ => exact absurd h Bool.false_ne_true
  | .lit l, c, f, X, k, x, h => by
    cases x with
    | Constant z j p => exact pe_lit (j := none) (show litM l z = true from h)
    | _ => exact absurd h Bool.false_ne_true
  | .glob g, c, f, X, k, x, h => by
    cases x with
    | Name y p =>
      have h : (decide ((G.con[g]?).map (·.1) = some y) && glbB c y && okN y) = true := h
      simp only [Bool.and_eq_true, decide_eq_true_eq] at h
      obtain ⟨⟨h1, h2⟩, h3⟩ := h
      obtain ⟨⟨y', d⟩, e1, e2⟩ := map_name h1
      have e2 : y' = y := e2
      subst e2
      obtain ⟨u, v, m1, m2, m3⟩ := k.md.con g _ e1
      refine pe_weak (pe_glob (k.gl h2) m1 m2 (ok_of h3).1) fun s H Q ⟨js, M, s', T, S, q⟩ => ?_
      have q : Go X.K (Rep X.K) js H (match G.con[g]? with | some p => .ok (p.2, M) | none => .bad) Q := q
      rw [e1] at q
      exact q.ok .refl T (m3 js H)
    | _ => exact absurd h Bool.false_ne_true
  | .bin o a b, c, f, X, k, x, h => by
    cases x with
    | BinOp l op r p =>
      have h : (decide (o.py = op) && mE G N c f a l && mE G N c f b r) = true := h
      simp only [Bool.and_eq_true, decide_eq_true_eq] at h
      obtain ⟨⟨h1, h2⟩, h3⟩ := h
      subst h1
      exact pe_weak (pe_op (op_bin o) (sE a k l h2) (sE b k r h3)) fun s H Q q => two_parts (f := fun M d e => binD M o d e) q
    | _ => exact absurd h Bool.false_ne_true
  | .neg a, c, f, X, k, x, h => by
    cases x with
    | UnaryOp op y p =>
      cases op with
      | USub =>
        have h : mE G N c f a y = true := h
        exact pe_weak (pe_un un_neg (sE a k y h)) fun s H Q q => rd_neg q
      | _ => exact absurd h Bool.false_ne_true
    | _ => exact absurd h Bool.false_ne_true
  | .not a, c, f, X, k, x, h => by
    cases x with
    | UnaryOp op y p =>
      cases op with
      | Not =>
        have h : mE G N c f a y = true := h
        exact pe_weak (L2.pe_not (sE a k y h)) fun s H Q q => rd_not q
      | _ => exact absurd h Bool.false_ne_true
    | _ => exact absurd h Bool.false_ne_true
  | .bool z es, c, f, X, k, x, h => by
    cases x with
    | BoolOp op vs p =>
      have h : (decide (op = if z then .And else .Or) && !vs.isEmpty && mEs G N c f es vs) = true := h
      simp only [Bool.and_eq_true, decide_eq_true_eq, Bool.not_eq_true'] at h
      obtain ⟨⟨h1, h2⟩, h3⟩ := h
      subst h1
      exact sV es k z vs h2 h3
    | _ => exact absurd h Bool.false_ne_true
  | .cmp z a b, c, f, X, k, x, h => by
    cases x with
    | Compare l ops rs p =>
      cases ops with
      | nil => exact absurd h Bool.false_ne_true
      | cons op ops =>
        cases ops with
        | cons _ _ => exact absurd h Bool.false_ne_true
        | nil =>
          cases rs with
          | nil => exact absurd h Bool.false_ne_true
          | cons r rs =>
            cases rs with
            | cons _ _ => exact absurd h Bool.false_ne_true
            | nil =>
              have h : (decide (z.py = op) && noSet r && mE G N c f a l && mE G N c f b r) = true := h
              simp only [Bool.and_eq_true, decide_eq_true_eq] at h
              obtain ⟨⟨⟨h1, h2⟩, h3⟩, h4⟩ := h
              subst h1
              exact pe_weak (pe_cmpR (cmp_rd k.u65 z) (sE a k l h3) (sE b k r h4) (noMark h2 _)) fun s H Q q => two_parts (f := fun M d e => R.of (cmpD M z d e) fun k => .ok (.bl k, M)) q
    | _ => exact absurd h Bool.false_ne_true
  | .chain z1 z2 a b d, c, f, X, k, x, h => by
    cases x with
    | Compare l ops rs p =>
      cases ops with
      | nil => exact absurd h Bool.false_ne_true
      | cons op ops =>
        cases ops with
        | nil => exact absurd h Bool.false_ne_true
        | cons op2 ops =>
          cases ops with
          | cons _ _ => exact absurd h Bool.false_ne_true
          | nil =>
            cases rs with
            | nil => exact absurd h Bool.false_ne_true
            | cons r rs =>
              cases rs with
              | nil => exact absurd h Bool.false_ne_true
              | cons r2 rs =>
                cases rs with
                | cons _ _ => exact absurd h Bool.false_ne_true
                | nil =>
                  have h : (decide (z1.py = op) && decide (z2.py = op2) && noSet r && noSet r2 && mE G N c f a l && mE G N c f b r && mE G N c f d r2) = true := h
                  simp only [Bool.and_eq_true, decide_eq_true_eq] at h
                  obtain ⟨⟨⟨⟨⟨⟨h1, h2⟩, h3⟩, h4⟩, h5⟩, h6⟩, h7⟩ := h
                  subst h1 h2
                  exact pe_weak (pe_chain (op_cmp k.u65 z1) (op_cmp k.u65 z2) (sE a k l h5) (sE b k r h6) (sE d k r2 h7) (noMark h4 _)) fun s H Q q => rd_chain q
    | _ => exact absurd h Bool.false_ne_true
  | .ite t a b, c, f, X, k, x, h => by
    cases x with
    | IfExp y u v p =>
      have h : (mT G N c f t y && mE G N c f a u && mE G N c f b v) = true := h
      simp only [Bool.and_eq_true] at h
      exact pe_weak (pe_ifExp (sT t k y h.1.1) (sE a k u h.1.2) (sE b k v h.2)) fun s H Q q => rd_ite q
    | _ => exact absurd h Bool.false_ne_true
  | .tup es, c, f, X, k, x, h => by
    cases x with
    | Tuple xs j p =>
      have h : mEs G N c f es xs = true := h
      exact pe_weak (pe_tup (sEs es k xs h)) fun s H Q q => rd_tup q
    | _ => exact absurd h Bool.false_ne_true
  | .lst es, c, f, X, k, x, h => by
    cases x with
    | List xs p =>
      have h : mEs G N c f es xs = true := h
      exact pe_weak (pe_lst (sEs es k xs h)) fun s H Q q => rd_lst q
    | _ => exact absurd h Bool.false_ne_true
  | .dic ps, c, f, X, k, x, h => by
    cases x with
    | Dict ks vs p =>
      have h : (!ks.isEmpty && decide (ks.length = vs.length) && decide (ks.length ≤ 15) && mPs G N c f ps ks vs) = true := h
      simp only [Bool.and_eq_true, decide_eq_true_eq, Bool.not_eq_true'] at h
      obtain ⟨⟨⟨h1, h2⟩, h3⟩, h4⟩ := h
      obtain ⟨trs, hp, hall, w⟩ := sPs ps k p ks vs h4
      exact pe_weak (pe_disp hp hall h2 (fun e => by rw [e] at h1; cases h1) h3) fun s H Q q => rd_dic w q
    | _ => exact absurd h Bool.false_ne_true
  | .idx a b, c, f, X, k, x, h => by
    cases x with
    | Subscript y z p =>
      have h : (noSl z && mE G N c f a y && mE G N c f b z) = true := h
      simp only [Bool.and_eq_true] at h
      exact pe_weak (pe_ix (idx_rd k.u1) (sE a k y h.1.2) (sE b k z h.2) (plainIx h.1.1)) fun s H Q q => two_parts (f := fun M d e => R.of (idxD M d e) fun r => .ok (r, M)) q
    | _ => exact absurd h Bool.false_ne_true
  | .slc a lo hi, c, f, X, k, x, h => by
    cases x with
    | Subscript y z p =>
      cases z with
      | Slice l u st q =>
        cases st with
        | some _ => exact absurd h Bool.false_ne_true
        | none =>
          have h : (mE G N c f a y && mO G N c f lo l && mO G N c f hi u) = true := h
          simp only [Bool.and_eq_true] at h
          exact pe_weak (pe_slice sl_any (sE a k y h.1.1) (sO lo k l h.1.2) (sO hi k u h.2)) fun s H Q q => rd_slc q
      | _ => exact absurd h Bool.false_ne_true
    | _ => exact absurd h Bool.false_ne_true
  | .rev a, c, f, X, k, x, h => by
    cases x with
    | Subscript y z p =>
      cases z with
      | Slice l u st q =>
        cases l with
        | some _ => exact absurd h Bool.false_ne_true
        | none =>
          cases u with
          | some _ => exact absurd h Bool.false_ne_true
          | none =>
            cases st with
            | none => exact absurd h Bool.false_ne_true
            | some st =>
              cases st with
              | UnaryOp op w p2 =>
                cases op with
                | USub =>
                  cases w with
                  | Constant kk j p3 =>
                    cases kk with
                    | int i =>
                      have h : (decide (i = 1) && mE G N c f a y) = true := h
                      simp only [Bool.and_eq_true, decide_eq_true_eq] at h
                      obtain ⟨h1, h2⟩ := h
                      subst h1
                      exact pe_weak (pe_rev (sE a k y h2)) fun s H Q q => rd_rev q
                    | _ => exact absurd h Bool.false_ne_true
                  | _ => exact absurd h Bool.false_ne_true
                | _ => exact absurd h Bool.false_ne_true
              | _ => exact absurd h Bool.false_ne_true
      | _ => exact absurd h Bool.false_ne_true
    | _ => exact absurd h Bool.false_ne_true
  | .call g es, c, f, X, k, x, h => by
    cases x with
    | Call fn xs kws p =>
      cases fn with
      | Name y q =>
        cases kws with
        | cons _ _ => exact absurd h Bool.false_ne_true
        | nil =>
          have h : (decide ((G.fns[g]?).map (·.name) = some y) && glbB c y && okN y && mEs G N c f es xs) = true := h
          simp only [Bool.and_eq_true, decide_eq_true_eq] at h
          obtain ⟨⟨⟨h1, h2⟩, h3⟩, h4⟩ := h
          obtain ⟨D, e1, e2⟩ := map_name h1
          subst e2
          obtain ⟨a, fd, m1, m2, m3, m4⟩ := k.md.fn g D e1
          have pa := sEs es k xs h4
          have st := star_all (env := X.env) h4
          cases xs with
          | nil =>
            cases es with
            | cons _ _ => exact absurd h4 Bool.false_ne_true
            | nil =>
              refine pe_weak (pe_callG0 m4 k.gd k.room (k.gl h2) m1 m2 m3 (ok_of h3).1) fun s H Q ⟨js, M, s', T, S, d, M2, e, w⟩ => ?_
              exact ⟨js, M, [], T, .nil, callF_len e, d, M2, e, w⟩
          | cons x0 xs =>
            refine pe_weak (pe_callG m4 k.gd k.room (k.gl h2) m1 m2 m3 pa (ok_of h3).1 ?_ ?_) fun s H Q q => ?_
            · cases es with
              | nil => exact absurd h4 Bool.false_ne_true
              | cons _ _ =>
                have h4 : (noStar x0 && _ && _) = true := h4
                simp only [Bool.and_eq_true] at h4
                exact star1 h4.1.1 _ _
            · cases es with
              | nil => exact absurd h4 Bool.false_ne_true
              | cons _ es =>
                have h4 : (noStar x0 && _ && mEs G N c f es xs) = true := h4
                simp only [Bool.and_eq_true] at h4
                rw [star_all h4.2]
                exact any_back _
            · have := rd_arg (f := fun M ds => callF G n g ds M) q
              obtain ⟨js, M, s', T, S, q'⟩ := this
              refine ⟨js, M, s', T, S, q'.mono fun vs H1 ⟨js1, M1, ds, T1, r1, d, M2, e, w⟩ => ⟨js1, M1, ds, T1, r1, callF_len e, d, M2, e, w⟩⟩
      | _ => exact absurd h Bool.false_ne_true
    | _ => exact absurd h Bool.false_ne_true
  | .bi b es, c, f, X, k, x, h => by
    cases x with
    | Call fn xs kws p =>
      cases fn with
      | Name y q =>
        cases kws with
        | cons _ _ => exact absurd h Bool.false_ne_true
        | nil =>
          have h : (decide (b.nm = y) && glbB c y && !xs.isEmpty && mEs G N c f es xs) = true := h
          simp only [Bool.and_eq_true, decide_eq_true_eq, Bool.not_eq_true'] at h
          obtain ⟨⟨⟨h1, h2⟩, h3⟩, h4⟩ := h
          subst h1
          have pa := sEs es k xs h4
          cases xs with
          | nil => cases h3
          | cons x0 xs =>
            cases es with
            | nil => exact absurd h4 Bool.false_ne_true
            | cons e0 es =>
              have h4 : (noStar x0 && mE G N c f e0 x0 && mEs G N c f es xs) = true := h4
              simp only [Bool.and_eq_true] at h4
              refine pe_weak (pe_callV (bi_ok k.u66 k.gd k.calm b) (k.gl h2) (k.md.blt _ (bi_in b)) pa (star1 h4.1.1 _ _) (by rw [star_all h4.2]; exact any_back _)) fun s H Q q => ?_
              exact rd_arg (f := fun M ds => biD M b ds) q
      | _ => exact absurd h Bool.false_ne_true
    | _ => exact absurd h Bool.false_ne_true
  | .isi a t, c, f, X, k, x, h => by
    cases x with
    | Call fn xs kws p =>
      cases fn with
      | Name y q =>
        cases xs with
        | nil => exact absurd h Bool.false_ne_true
        | cons a1 xs =>
          cases xs with
          | nil => exact absurd h Bool.false_ne_true
          | cons a2 xs =>
            cases a2 with
            | Name z pz =>
              cases xs with
              | cons _ _ => exact absurd h Bool.false_ne_true
              | nil =>
                cases kws with
                | cons _ _ => exact absurd h Bool.false_ne_true
                | nil =>
                  have h : (decide (y = "isinstance") && glbB c y && glbB c z && decide (z = Str.ofString t) && ["int", "bool", "str", "tuple", "list", "dict"].contains t && noStar a1 && mE G N c f a a1) = true := h
                  simp only [Bool.and_eq_true, decide_eq_true_eq] at h
                  obtain ⟨⟨⟨⟨⟨⟨h1, h2⟩, h3⟩, h4⟩, h5⟩, h6⟩, h7⟩ := h
                  subst h1
                  obtain ⟨b1, b2, b3, b4⟩ := isi_ty h4 h5
                  have pz : PE X (.Name z pz) (tC (.ty t)) := pe_bltn (k.gl h3) (k.md.blt _ b2) b1 rfl b3 b4
                  refine pe_weak (pe_callB call_isi (k.gl h2) (k.md.blt _ (by decide)) (by decide +kernel) (pa_cons (sE a k a1 h7) (pa_cons pz pa_nil rfl) (star1 h6 _ _)) (by decide) (by decide) (star1 h6 _ _) rfl) fun s H Q q => rd_isi q
            | _ => exact absurd h Bool.false_ne_true
      | _ => exact absurd h Bool.false_ne_true
    | _ => exact absurd h Bool.false_ne_true
  | .meth m o es, c, f, X, k, x, h => by
    cases x with
    | Call fn xs kws cpos =>
      cases fn with
      | Attribute y nm apos =>
        cases kws with
        | cons _ _ => exact absurd h Bool.false_ne_true
        | nil =>
          have h : (decide (m.nm = nm) && decide (apos.endLine = cpos.line) && noBase y && decide (xs.length < 29) && mE G N c f o y && mEs G N c f es xs) = true := h
          simp only [Bool.and_eq_true, decide_eq_true_eq] at h
          obtain ⟨⟨⟨⟨⟨h1, h2⟩, h3⟩, h4⟩, h5⟩, h6⟩ := h
          subst h1
          refine pe_methV k.u1 m (sE o k y h5) (sEs es k xs h6) (fun e s M => ?_) (base1 h3 _ _) h4 (by rw [h2]; exact beq_self_eq_true _) (star_all h6)
          subst e
          cases es with
          | nil => rfl
          | cons _ _ => exact absurd h6 Bool.false_ne_true
      | _ => exact absurd h Bool.false_ne_true
    | _ => exact absurd h Bool.false_ne_true
  | .lc elt t it cond own, c, f, X, k, x, h => by
    cases x with
    | ListComp y gs scope p =>
      cases gs with
      | nil => exact absurd h Bool.false_ne_true
      | cons g gs =>
        obtain ⟨tg, iter, ifs, kk⟩ := g
        cases gs with
        | cons _ _ => exact absurd h Bool.false_ne_true
        | nil =>
          have h : (decide (kk = 0) && noSet iter && t.names.all own.contains && blkC N c scope (own.map fun i => (N.getD i Str.empty, i)) && mI G N c f it iter &&
            mG G N (relS scope c) (fun x => scope.names.lookup x == some .cell) t tg && mIfs G N (relS scope c) (fun x => scope.names.lookup x == some .cell) cond ifs && mE G N (relS scope c) (fun x => scope.names.lookup x == some .cell) elt y) = true := h
          simp only [Bool.and_eq_true, decide_eq_true_eq] at h
          obtain ⟨⟨⟨⟨⟨⟨⟨h1, h2⟩, h3⟩, h4⟩, h5⟩, h6⟩, h7⟩, h8⟩ := h
          subst h1
          have ok : BlkOk X.N X.env.scope scope (own.map fun i => (N.getD i Str.empty, i)) := by rw [k.hN, k.sc]; exact blkOk_by h4
          refine pe_weak (pe_lc k.calm k.nod (sI it k iter tg h5) ok (fun s H C cl fp => sG t (k.blk scope s H C cl fp) own h3 tg h6) (fun s H C cl fp => sIf cond (k.blk scope s H C cl fp) ifs h7)
            (fun s H C cl fp => sE elt (k.blk scope s H C cl fp) y h8) (noSet1 h2 _)) fun s H Q q => lam_lc (N := N) q
    | _ => exact absurd h Bool.false_ne_true
  | .ssc elt t it cond own, c, f, X, k, x, h => by
    have h : (match setCall x with
      | some (fx, y, tg, iter, ifs, k, scope) => decide (fx = "sorted") && glbB c fx && decide (k = 0) && noSet iter && t.names.all own.contains && blkC N c scope (own.map fun i => (N.getD i Str.empty, i)) && mI G N c f it iter &&
        mG G N (relS scope c) (fun x => scope.names.lookup x == some .cell) t tg && mIfs G N (relS scope c) (fun x => scope.names.lookup x == some .cell) cond ifs && mE G N (relS scope c) (fun x => scope.names.lookup x == some .cell) elt y
      | none => false) = true := h
    cases ex : setCall x with
    | none => rw [ex] at h; exact absurd h Bool.false_ne_true
    | some q =>
    obtain ⟨fx, y, tg, iter, ifs, kk, scope⟩ := q
    rw [ex] at h
    have hh : (decide (fx = "sorted") && glbB c fx && decide (kk = 0) && noSet iter && t.names.all own.contains && blkC N c scope (own.map fun i => (N.getD i Str.empty, i)) && mI G N c f it iter &&
        mG G N (relS scope c) (fun x => scope.names.lookup x == some .cell) t tg && mIfs G N (relS scope c) (fun x => scope.names.lookup x == some .cell) cond ifs && mE G N (relS scope c) (fun x => scope.names.lookup x == some .cell) elt y) = true := h
    obtain ⟨p1, p2, p, rfl⟩ := setCall_eq ex
    simp only [Bool.and_eq_true, decide_eq_true_eq] at hh
    obtain ⟨⟨⟨⟨⟨⟨⟨⟨⟨h01, h02⟩, h1⟩, h2⟩, h3⟩, h4⟩, h5⟩, h6⟩, h7⟩, h8⟩ := hh
    subst h01
    subst h1
    have ok : BlkOk X.N X.env.scope scope (own.map fun i => (N.getD i Str.empty, i)) := by rw [k.hN, k.sc]; exact blkOk_by h4
    exact pe_ssc k.calm k.nod (k.gl h02) (k.md.blt _ (by decide)) (sI it k iter tg h5) ok (fun s H C cl fp => sG t (k.blk scope s H C cl fp) own h3 tg h6) (fun s H C cl fp => sIf cond (k.blk scope s H C cl fp) ifs h7)
      (fun s H C cl fp => sE elt (k.blk scope s H C cl fp) y h8) (noSet1 h2 _)
  | .trg a, c, f, X, k, x, h => by
    cases x with
    | Call fn xs kws p =>
      cases fn with
      | Name y q =>
        cases xs with
        | nil => exact absurd h Bool.false_ne_true
        | cons x1 xs =>
          cases x1 with
          | Call fn2 ys kws2 p2 =>
            cases fn2 with
            | Name z q2 =>
              cases ys with
              | nil => exact absurd h Bool.false_ne_true
              | cons y1 ys =>
                cases ys with
                | cons _ _ => exact absurd h Bool.false_ne_true
                | nil =>
                  cases kws2 with
                  | cons _ _ => exact absurd h Bool.false_ne_true
                  | nil =>
                    cases xs with
                    | cons _ _ => exact absurd h Bool.false_ne_true
                    | nil =>
                      cases kws with
                      | cons _ _ => exact absurd h Bool.false_ne_true
                      | nil =>
                        have h : (decide (y = "tuple") && decide (z = "range") && glbB c y && glbB c z && noStar y1 && mE G N c f a y1) = true := h
                        simp only [Bool.and_eq_true, decide_eq_true_eq] at h
                        obtain ⟨⟨⟨⟨⟨h1, h2⟩, h3⟩, h4⟩, h5⟩, h6⟩ := h
                        subst h1 h2
                        exact pe_weak (pe_tupRg k.calm (k.gl h3) (k.md.blt _ (by decide)) (prg_1 (k.gl h4) (k.md.blt _ (by decide)) (sE a k y1 h6) (star1 h5 _ _)) rfl) fun s H Q q => rd_trg q
            | _ => exact absurd h Bool.false_ne_true
          | _ => exact absurd h Bool.false_ne_true
      | _ => exact absurd h Bool.false_ne_true
    | _ => exact absurd h Bool.false_ne_true
  | .lrg a, c, f, X, k, x, h => by
    cases x with
    | Call fn xs kws p =>
      cases fn with
      | Name y q =>
        cases xs with
        | nil => exact absurd h Bool.false_ne_true
        | cons x1 xs =>
          cases x1 with
          | Call fn2 ys kws2 p2 =>
            cases fn2 with
            | Name z q2 =>
              cases ys with
              | nil => exact absurd h Bool.false_ne_true
              | cons y1 ys =>
                cases ys with
                | cons _ _ => exact absurd h Bool.false_ne_true
                | nil =>
                  cases kws2 with
                  | cons _ _ => exact absurd h Bool.false_ne_true
                  | nil =>
                    cases xs with
                    | cons _ _ => exact absurd h Bool.false_ne_true
                    | nil =>
                      cases kws with
                      | cons _ _ => exact absurd h Bool.false_ne_true
                      | nil =>
                        have h : (decide (y = "list") && decide (z = "range") && glbB c y && glbB c z && noStar y1 && mE G N c f a y1) = true := h
                        simp only [Bool.and_eq_true, decide_eq_true_eq] at h
                        obtain ⟨⟨⟨⟨⟨h1, h2⟩, h3⟩, h4⟩, h5⟩, h6⟩ := h
                        subst h1 h2
                        exact pe_weak (pe_listRg k.calm (k.gl h3) (k.md.blt _ (by decide)) (prg_1 (k.gl h4) (k.md.blt _ (by decide)) (sE a k y1 h6) (star1 h5 _ _)) rfl) fun s H Q q => rd_lrg q
            | _ => exact absurd h Bool.false_ne_true
          | _ => exact absurd h Bool.false_ne_true
      | _ => exact absurd h Bool.false_ne_true
    | _ => exact absurd h Bool.false_ne_true
theorem sEs : ∀ (es : Es) {c : Scope} {f : Str → Bool} {X : Cx} (k : Okx G N c f n X) (xs : List Expr), mEs G N c f es xs = true → PA X xs (tA X.K (evs G (callF G n) es))
  | .nil, c, f, X, k, [], h => pa_weak pa_nil fun s H Q q => rd_nil q
  | .nil, c, f, X, k, _ :: _, h => absurd h Bool.false_ne_true
  | .cons _ _, c, f, X, k, [], h => absurd h Bool.false_ne_true
  | .cons e es, c, f, X, k, x :: xs, h => by
    have h : (noStar x && mE G N c f e x && mEs G N c f es xs) = true := h
    simp only [Bool.and_eq_true] at h
    exact pa_weak (pa_cons (sE e k x h.1.2) (sEs es k xs h.2) (star1 h.1.1 _ _)) fun s H Q q => rd_cons q
theorem sV : ∀ (es : Es) {c : Scope} {f : Str → Bool} {X : Cx} (k : Okx G N c f n X) (z : Bool) (xs : List Expr) {p : Pos}, xs.isEmpty = false → mEs G N c f es xs = true → PE X (.BoolOp (if z = true then .And else .Or) xs p) (tE X.K fun s M => evV G (callF G n) es z s M)
  | _, c, f, X, k, z, [], _, h, _ => absurd h (by decide)
  | .nil, c, f, X, k, z, _ :: _, _, _, h => absurd h Bool.false_ne_true
  | .cons e .nil, c, f, X, k, z, [x], p, _, h => by
    have h : (noStar x && mE G N c f e x && true) = true := h
    simp only [Bool.and_eq_true] at h
    exact pe_weak (pe_one (sE e k x h.1.2)) fun s H Q q => rd_one (c := z) q
  | .cons e (.cons _ _), c, f, X, k, z, [x], p, _, h => by
    have h : (noStar x && mE G N c f e x && false) = true := h
    rw [Bool.and_false] at h
    cases h
  | .cons e es, c, f, X, k, z, x :: y :: xs, p, _, h => by
    have h : (noStar x && mE G N c f e x && mEs G N c f es (y :: xs)) = true := h
    simp only [Bool.and_eq_true] at h
    have h2 := sV es k z (y :: xs) (p := p) rfl h.2
    cases z with
    | true => exact pe_weak (L2.pe_and (sE e k x h.1.2) h2) fun s H Q q => rd_and q
    | false => exact pe_weak (L2.pe_or (sE e k x h.1.2) h2) fun s H Q q => rd_or q
theorem sPs : ∀ (ps : Ps) {c : Scope} {f : Str → Bool} {X : Cx} (k : Okx G N c f n X) (p : Pos) (ks : List (Option Expr)) (vs : List Expr), mPs G N c f ps ks vs = true →
    ∃ trs, PPs X p ks vs trs ∧ ks.all (·.isSome) = true ∧ ∀ {t : St} {js : List Addr} {M : Mem} {s : Ev} {H : Hp} {Q : List (V × V) → Hp → Prop}, Tie X.K js H M → RepS X.K js H s t → Go X.K (RepPs X.K) js H (evp G (callF G n) ps s M) Q → tPairs trs t H Q
  | .nil, c, f, X, k, p, ks, vs, h => by
    cases ks with
    | cons _ _ => exact absurd h (by cases vs <;> exact Bool.false_ne_true)
    | nil =>
      cases vs with
      | cons _ _ => exact absurd h Bool.false_ne_true
      | nil => exact ⟨[], pps_nil, rfl, fun {t js M s H Q} T S g => Go.ok g .refl T ⟨.nil, .nil⟩⟩
  | .cons a b ps, c, f, X, k, p, ks, vs, h => by
    cases ks with
    | nil => exact absurd h Bool.false_ne_true
    | cons x ks =>
      cases x with
      | none => exact absurd h Bool.false_ne_true
      | some x =>
        cases vs with
        | nil => exact absurd h Bool.false_ne_true
        | cons y vs =>
          have h : (mE G N c f a x && mE G N c f b y && mPs G N c f ps ks vs) = true := h
          simp only [Bool.and_eq_true] at h
          obtain ⟨trs, h1, h2, h3⟩ := sPs ps k p ks vs h.2
          refine ⟨_, pps_cons (sE a k x h.1.1) (sE b k y h.1.2) h1, by rw [List.all_cons, h2]; rfl, fun {t js M s H Q} T S g => ?_⟩
          have g : Go X.K (RepPs X.K) js H ((ev G (callF G n) a s M).bind fun p => (ev G (callF G n) b s p.2).bind fun q => (evp G (callF G n) ps s q.2).bind fun r => .ok ((p.1, q.1) :: r.1, r.2)) Q := g
          refine ⟨js, M, s, T, S, g.bind.mono ?_⟩
          rintro u H1 ⟨js1, M1, d, T1, x1, r1, g1⟩
          refine ⟨js1, M1, s, T1, S.ext T x1, g1.bind.mono ?_⟩
          rintro w H2 ⟨js2, M2, e, T2, x2, r2, g2⟩
          refine h3 T2 ((S.ext T x1).ext T1 x2) (g2.bind.mono ?_)
          rintro ps' H3 ⟨js3, M3, l, T3, x3, r3, g3⟩
          exact Go.ok g3 .refl T3 ⟨.cons ((r1.ext T1 x2).ext T2 x3) r3.1, .cons (r2.ext T2 x3) r3.2⟩
theorem sT : ∀ (e : T) {c : Scope} {f : Str → Bool} {X : Cx} (k : Okx G N c f n X) (x : Expr), mT G N c f e x = true → PT X x (tT X.K fun s M => evT G (callF G n) e s M)
  | .not t, c, f, X, k, x, h => by
    cases x with
    | UnaryOp op y p =>
      cases op with
      | Not =>
        have h : mT G N c f t y = true := h
        exact pt_weak (pt_not (sT t k y h)) fun s H Q q => rd_tnot q
      | _ => exact absurd h Bool.false_ne_true
    | _ => exact absurd h Bool.false_ne_true
  | .bool z ts, c, f, X, k, x, h => by
    cases x with
    | BoolOp op vs p =>
      have h : (decide (op = if z then .And else .Or) && !vs.isEmpty && mTs G N c f ts vs) = true := h
      simp only [Bool.and_eq_true, decide_eq_true_eq, Bool.not_eq_true'] at h
      obtain ⟨⟨h1, h2⟩, h3⟩ := h
      subst h1
      exact (sTs ts k z vs h2 h3).pt
    | _ => exact absurd h Bool.false_ne_true
  | .val (.cmp z a b), c, f, X, k, x, h => by
    have h : ((noTst x || isCmp x) && mE G N c f (.cmp z a b) x) = true := h
    rw [Bool.and_eq_true] at h
    obtain ⟨_, h⟩ := h
    cases x with
    | Compare l ops rs p =>
      cases ops with
      | nil => exact absurd h Bool.false_ne_true
      | cons op ops =>
        cases ops with
        | cons _ _ => exact absurd h Bool.false_ne_true
        | nil =>
          cases rs with
          | nil => exact absurd h Bool.false_ne_true
          | cons r rs =>
            cases rs with
            | cons _ _ => exact absurd h Bool.false_ne_true
            | nil =>
              have h : (decide (z.py = op) && noSet r && mE G N c f a l && mE G N c f b r) = true := h
              simp only [Bool.and_eq_true, decide_eq_true_eq] at h
              obtain ⟨⟨⟨h1, h2⟩, h3⟩, h4⟩ := h
              subst h1
              refine pt_weak (pt_cmpR (cmp_rd k.u65 z) (sE a k l h3) (sE b k r h4) (noMark h2 _)) fun s H Q q => rd_test (ra := ev G (callF G n) (.cmp z a b)) (fun Q' q => two_parts (f := fun M d e => R.of (cmpD M z d e) fun k => .ok (.bl k, M)) q) (fun s M d M' e => ?_) q
              obtain ⟨_, _, e⟩ := bind_ok e
              obtain ⟨_, _, e⟩ := bind_ok e
              obtain ⟨b, _, e⟩ := of_ok e
              cases e
              exact ⟨b, rfl⟩
    | _ => exact absurd h Bool.false_ne_true
  | .val (.chain z1 z2 a b d), c, f, X, k, x, h => by
    have h : ((noTst x || isCmp x) && mE G N c f (.chain z1 z2 a b d) x) = true := h
    rw [Bool.and_eq_true] at h
    obtain ⟨_, h⟩ := h
    cases x with
    | Compare l ops rs p =>
      cases ops with
      | nil => exact absurd h Bool.false_ne_true
      | cons op ops =>
        cases ops with
        | nil => exact absurd h Bool.false_ne_true
        | cons op2 ops =>
          cases ops with
          | cons _ _ => exact absurd h Bool.false_ne_true
          | nil =>
            cases rs with
            | nil => exact absurd h Bool.false_ne_true
            | cons r rs =>
              cases rs with
              | nil => exact absurd h Bool.false_ne_true
              | cons r2 rs =>
                cases rs with
                | cons _ _ => exact absurd h Bool.false_ne_true
                | nil =>
                  have h : (decide (z1.py = op) && decide (z2.py = op2) && noSet r && noSet r2 && mE G N c f a l && mE G N c f b r && mE G N c f d r2) = true := h
                  simp only [Bool.and_eq_true, decide_eq_true_eq] at h
                  obtain ⟨⟨⟨⟨⟨⟨h1, h2⟩, h3⟩, h4⟩, h5⟩, h6⟩, h7⟩ := h
                  subst h1 h2
                  refine pt_weak (pt_chain (op_cmp k.u65 z1) (op_cmp k.u65 z2) (sE a k l h5) (sE b k r h6) (sE d k r2 h7) (noMark h4 _)) fun s H Q q => rd_test (ra := ev G (callF G n) (.chain z1 z2 a b d)) (fun Q' q => rd_chain q) (fun s M d' M' e => ?_) q
                  obtain ⟨p1, _, e⟩ := bind_ok e
                  obtain ⟨p2, _, e⟩ := bind_ok e
                  obtain ⟨w, _, e⟩ := of_ok e
                  cases w with
                  | true =>
                    obtain ⟨p3, _, e⟩ := bind_ok e
                    obtain ⟨w, _, e⟩ := of_ok e
                    cases e
                    exact ⟨_, rfl⟩
                  | false => cases e; exact ⟨_, rfl⟩
    | _ => exact absurd h Bool.false_ne_true
  | .val (.var i), c, f, X, k, x, h => ptv (sE (.var i) k x (tv h)) h fun l o r p e => by subst e; exact absurd (tv h) Bool.false_ne_true
  | .val (.lit l), c, f, X, k, x, h => ptv (sE (.lit l) k x (tv h)) h fun l o r p e => by subst e; exact absurd (tv h) Bool.false_ne_true
  | .val (.glob g), c, f, X, k, x, h => ptv (sE (.glob g) k x (tv h)) h fun l o r p e => by subst e; exact absurd (tv h) Bool.false_ne_true
  | .val (.bin o a b), c, f, X, k, x, h => ptv (sE (.bin o a b) k x (tv h)) h fun l o r p e => by subst e; exact absurd (tv h) Bool.false_ne_true
  | .val (.neg a), c, f, X, k, x, h => ptv (sE (.neg a) k x (tv h)) h fun l o r p e => by subst e; exact absurd (tv h) Bool.false_ne_true
  | .val (.not a), c, f, X, k, x, h => ptv (sE (.not a) k x (tv h)) h fun l o r p e => by subst e; exact absurd (tv h) Bool.false_ne_true
  | .val (.bool z es), c, f, X, k, x, h => ptv (sE (.bool z es) k x (tv h)) h fun l o r p e => by subst e; exact absurd (tv h) Bool.false_ne_true
  | .val (.ite t a b), c, f, X, k, x, h => ptv (sE (.ite t a b) k x (tv h)) h fun l o r p e => by subst e; exact absurd (tv h) Bool.false_ne_true
  | .val (.tup es), c, f, X, k, x, h => ptv (sE (.tup es) k x (tv h)) h fun l o r p e => by subst e; exact absurd (tv h) Bool.false_ne_true
  | .val (.lst es), c, f, X, k, x, h => ptv (sE (.lst es) k x (tv h)) h fun l o r p e => by subst e; exact absurd (tv h) Bool.false_ne_true
  | .val (.dic ps), c, f, X, k, x, h => ptv (sE (.dic ps) k x (tv h)) h fun l o r p e => by subst e; exact absurd (tv h) Bool.false_ne_true
  | .val (.idx a b), c, f, X, k, x, h => ptv (sE (.idx a b) k x (tv h)) h fun l o r p e => by subst e; exact absurd (tv h) Bool.false_ne_true
  | .val (.slc a lo hi), c, f, X, k, x, h => ptv (sE (.slc a lo hi) k x (tv h)) h fun l o r p e => by subst e; exact absurd (tv h) Bool.false_ne_true
  | .val (.rev a), c, f, X, k, x, h => ptv (sE (.rev a) k x (tv h)) h fun l o r p e => by subst e; exact absurd (tv h) Bool.false_ne_true
  | .val (.call g es), c, f, X, k, x, h => ptv (sE (.call g es) k x (tv h)) h fun l o r p e => by subst e; exact absurd (tv h) Bool.false_ne_true
  | .val (.bi b es), c, f, X, k, x, h => ptv (sE (.bi b es) k x (tv h)) h fun l o r p e => by subst e; exact absurd (tv h) Bool.false_ne_true
  | .val (.isi a t), c, f, X, k, x, h => ptv (sE (.isi a t) k x (tv h)) h fun l o r p e => by subst e; exact absurd (tv h) Bool.false_ne_true
  | .val (.meth m o es), c, f, X, k, x, h => ptv (sE (.meth m o es) k x (tv h)) h fun l o r p e => by subst e; exact absurd (tv h) Bool.false_ne_true
  | .val (.lc elt t it cond own), c, f, X, k, x, h => ptv (sE (.lc elt t it cond own) k x (tv h)) h fun l o r p e => by subst e; exact absurd (tv h) Bool.false_ne_true
  | .val (.ssc elt t it cond own), c, f, X, k, x, h => ptv (sE (.ssc elt t it cond own) k x (tv h)) h fun l o r p e => by subst e; exact absurd (tv h) Bool.false_ne_true
  | .val (.trg a), c, f, X, k, x, h => ptv (sE (.trg a) k x (tv h)) h fun l o r p e => by subst e; exact absurd (tv h) Bool.false_ne_true
  | .val (.lrg a), c, f, X, k, x, h => ptv (sE (.lrg a) k x (tv h)) h fun l o r p e => by subst e; exact absurd (tv h) Bool.false_ne_true
theorem sTs : ∀ (es : Ts) {c : Scope} {f : Str → Bool} {X : Cx} (k : Okx G N c f n X) (z : Bool) (xs : List Expr) {p : Pos}, xs.isEmpty = false → mTs G N c f es xs = true → PW X (.BoolOp (if z = true then .And else .Or) xs p) (tT X.K fun s M => evTs G (callF G n) es z s M)
  | _, c, f, X, k, z, [], _, h, _ => absurd h (by decide)
  | .nil, c, f, X, k, z, _ :: _, _, _, h => absurd h Bool.false_ne_true
  | .cons e .nil, c, f, X, k, z, [x], p, _, h => by
    have h : (mT G N c f e x && true) = true := h
    simp only [Bool.and_eq_true] at h
    cases z with
    | true => exact pw_weak (pw_and1 (sT e k x h.1)) fun s H Q q => rd_t1 (c := true) q
    | false => exact pw_weak (pw_or1 (sT e k x h.1)) fun s H Q q => rd_t1 (c := false) q
  | .cons e (.cons _ _), c, f, X, k, z, [x], p, _, h => by
    have h : (mT G N c f e x && false) = true := h
    rw [Bool.and_false] at h
    cases h
  | .cons e es, c, f, X, k, z, x :: y :: xs, p, _, h => by
    have h : (mT G N c f e x && mTs G N c f es (y :: xs)) = true := h
    simp only [Bool.and_eq_true] at h
    have h2 := sTs es k z (y :: xs) (p := p) rfl h.2
    cases z with
    | true => exact pw_weak (pw_and (sT e k x h.1) h2) fun s H Q q => rd_tand q
    | false => exact pw_weak (pw_or (sT e k x h.1) h2) fun s H Q q => rd_tor q
theorem sIf : ∀ (es : Ts) {c : Scope} {f : Str → Bool} {X : Cx} (k : Okx G N c f n X) (xs : List Expr), mIfs G N c f es xs = true → PTs X xs (tT X.K fun s M => evTs G (callF G n) es true s M)
  | .nil, c, f, X, k, [], h => ⟨fun pins s σ H Q I ⟨js, M, s', T, S, g⟩ => pts_nil.run pins s σ H Q I (Go.ok g .refl T rfl)⟩
  | .nil, c, f, X, k, _ :: _, h => absurd h Bool.false_ne_true
  | .cons _ _, c, f, X, k, [], h => absurd h Bool.false_ne_true
  | .cons e es, c, f, X, k, x :: xs, h => by
    have h : (mT G N c f e x && mIfs G N c f es xs) = true := h
    simp only [Bool.and_eq_true] at h
    have h2 := pts_cons (sT e k x h.1) (sIf es k xs h.2)
    exact ⟨fun pins s σ H Q I q => h2.run pins s σ H Q I (rd_tand q)⟩
theorem sO : ∀ (o : O) {c : Scope} {f : Str → Bool} {X : Cx} (k : Okx G N c f n X) (x : Option Expr), mO G N c f o x = true → PO X x (tO X.K fun s M => evO G (callF G n) o s M)
  | .no, c, f, X, k, none, h => po_weak po_none fun s H Q q => rd_nopart q
  | .no, c, f, X, k, some _, h => absurd h Bool.false_ne_true
  | .at e, c, f, X, k, none, h => absurd h Bool.false_ne_true
  | .at e, c, f, X, k, some x, h => po_weak (po_some (sE e k x h)) fun s H Q q => rd_part q
theorem sI : ∀ (i : It) {c : Scope} {f : Str → Bool} {X : Cx} (k : Okx G N c f n X) (x tg : Expr), mI G N c f i x = true → PI X tg x (tI X.K fun s M => evI G (callF G n) i s M)
  | .ex e, c, f, X, k, x, tg, h => pi_weak (pi_any (sE e k x h)) fun s H Q q => rd_ex q
  | .rg1 a, c, f, X, k, x, tg, h => by
    cases x with
    | Call fn xs kws p =>
      cases fn with
      | Name y q =>
        cases xs with
        | nil => exact absurd h Bool.false_ne_true
        | cons x1 xs =>
          cases xs with
          | cons _ _ => exact absurd h Bool.false_ne_true
          | nil =>
            cases kws with
            | cons _ _ => exact absurd h Bool.false_ne_true
            | nil =>
              have h : (decide (y = "range") && glbB c y && noStar x1 && mE G N c f a x1) = true := h
              simp only [Bool.and_eq_true, decide_eq_true_eq] at h
              obtain ⟨⟨⟨h1, h2⟩, h3⟩, h4⟩ := h
              subst h1
              exact pi_weak (pi_range1 (k.gl h2) (k.md.blt _ (by decide)) (pa_cons (sE a k x1 h4) pa_nil (star1 h3 _ _)) (star1 h3 _ _)) fun s H Q q => rd_rg1 q
      | _ => exact absurd h Bool.false_ne_true
    | _ => exact absurd h Bool.false_ne_true
  | .rg2 a b, c, f, X, k, x, tg, h => by
    cases x with
    | Call fn xs kws p =>
      cases fn with
      | Name y q =>
        cases xs with
        | nil => exact absurd h Bool.false_ne_true
        | cons x1 xs =>
          cases xs with
          | nil => exact absurd h Bool.false_ne_true
          | cons x2 xs =>
            cases xs with
            | cons _ _ => exact absurd h Bool.false_ne_true
            | nil =>
              cases kws with
              | cons _ _ => exact absurd h Bool.false_ne_true
              | nil =>
                have h : (decide (y = "range") && glbB c y && noStar x1 && noStar x2 && mE G N c f a x1 && mE G N c f b x2) = true := h
                simp only [Bool.and_eq_true, decide_eq_true_eq] at h
                obtain ⟨⟨⟨⟨⟨h1, h2⟩, h3⟩, h4⟩, h5⟩, h6⟩ := h
                subst h1
                have s2 : starEach [x2] X.env = [(false, eval x2 X.env)] := star1 h4 _ _
                have s1 : starEach [x1, x2] X.env = [(false, eval x1 X.env), (false, eval x2 X.env)] := by rw [star1 h3, s2]
                exact pi_weak (pi_range2 (k.gl h2) (k.md.blt _ (by decide)) (pa_cons (sE a k x1 h5) (pa_cons (sE b k x2 h6) pa_nil (star1 h4 _ _)) (star1 h3 _ _)) s1 s2) fun s H Q q => rd_rg2 q
      | _ => exact absurd h Bool.false_ne_true
    | _ => exact absurd h Bool.false_ne_true
theorem sG : ∀ (t : Tg) {c : Scope} {f : Str → Bool} {X : Cx} (k : Okx G N c f n X) (own : List Nat), t.names.all own.contains = true → ∀ (x : Expr), mG G N c f t x = true →
    PG X x (fun v t' H Q => gG X.K (evG G (callF G n) t) v t' H fun t2 H2 => L2.wipe t2 own = L2.wipe t' own → Q t2 H2)
  | .nm i, c, f, X, k, own, ho, x, h => by
    cases x with
    | Name y p =>
      have h : (decide (N[i]? = some y) && stoB c f y) = true := h
      simp only [Bool.and_eq_true, decide_eq_true_eq] at h
      obtain ⟨l1, l2⟩ := k.sto h.2
      have hi : i ∈ own := by
        have := List.all_eq_true.mp ho i (by simp [Tg.names])
        exact List.contains_iff_mem.mp this
      refine pg_weak (pg_name k.nod (k.ix h.1) l1 l2) fun v t' H Q ⟨js, M, s, d, T, S, r, g⟩ => ?_
      exact Go.ok g .refl T (S.set r i) (wipe_set _ _ hi _)
    | _ => exact absurd h Bool.false_ne_true
  | .tp is, c, f, X, k, own, ho, x, h => by
    cases x with
    | Tuple es j p =>
      have h : namesM N c f is es = true := h
      obtain ⟨j1, j2, j3⟩ := names_run k h
      have hi : ∀ i ∈ is, i ∈ own := fun i hi => List.contains_iff_mem.mp (List.all_eq_true.mp ho i hi)
      refine pg_weak (pg_tup k.calm j1 j2 j3) fun v t' H Q ⟨js, M, s, d, T, S, r, g⟩ => ?_
      have g : Go X.K (RepS X.K) js H (match (generalizing := false) d with | .tup ds => R.when (ds.length = is.length) (.ok (setsE is ds s, M)) | _ => .bad) _ := g
      cases d with
      | tup ds =>
        cases r with
        | tup hs hr =>
          obtain ⟨hl, g⟩ := Go.when g
          have hl' := hr.length
          exact ⟨_, _, rfl, hs, by omega, by omega, Go.ok g .refl T (sets_rep hr S) (wipe_sets hi)⟩
      | _ => exact g.bad
    | _ => exact absurd h Bool.false_ne_true
  | .sb o i, c, f, X, k, own, ho, x, h => by
    cases x with
    | Subscript y z p =>
      have h : (noSl z && mE G N c f o y && mE G N c f i z) = true := h
      simp only [Bool.and_eq_true] at h
      refine pg_weak (pg_sub (sE o k y h.1.2) (sE i k z h.2) (set_any k.u1) (sub1 h.1.1 _ _ _)) fun v t' H Q ⟨js, M, s, d, T, S, r, g⟩ => ?_
      have g : Go X.K (RepS X.K) js H ((ev G (callF G n) o s M).bind fun p => (ev G (callF G n) i s p.2).bind fun q => (setItem q.2 p.1 q.1 d).bind fun M' => .ok (s, M')) _ := g
      refine ⟨js, M, s, T, S, g.bind.mono ?_⟩
      rintro u H1 ⟨js1, M1, d1, T1, x1, r1, g1⟩
      refine ⟨js1, M1, s, T1, S.ext T x1, g1.bind.mono ?_⟩
      rintro w H2 ⟨js2, M2, d2, T2, x2, r2, s2, M4, e, ff⟩
      obtain ⟨M3, e3, e4⟩ := bind_ok e
      cases e4
      exact ⟨js2, M2, d1, d2, d, M4, T2, r1.ext T1 x2, r2, (r.ext T x1).ext T1 x2, e3, fun js3 H3 x3 T3 => ff js3 H3 t' x3 T3 (((S.ext T x1).ext T1 x2).ext T2 x3) rfl⟩
    | _ => exact absurd h Bool.false_ne_true
end
end
end Cp

/-! Statements: the compact run's answer is the walk's. -/
namespace Cp
open PySem L2

def EndP (K : PySem.W.Frag) (js : List Addr) (H : Hp) (D : Ends) (t : St) : Fl → Prop
  | .nx => D.nx t H
  | .bk => D.bk t H
  | .ct => D.ct t H
  | .rt d => ∀ v, Rep K js H d v → D.rt v H
def GoS (K : PySem.W.Frag) (js : List Addr) (H : Hp) (r : RS) (D : Ends) : Prop :=
  ∃ q, r = .ok q ∧ ∀ js' H' t', Ext js H js' H' → Tie K js' H' q.2.2 → RepS K js' H' q.2.1 t' → EndP K js' H' D t' q.1
def tS (K : PySem.W.Frag) (r : Ev → Mem → RS) : TS := fun D t H => ∃ js M s, Tie K js H M ∧ RepS K js H s t ∧ GoS K js H (r s M) D
section
variable {K : PySem.W.Frag} {t : St} {H : Hp} {Z : Ends}
theorem GoS.bind {α β : Type} {p : List Addr → Hp → α → β → Prop} {js : List Addr} {r : R (α × Mem)} {k : α × Mem → RS} (g : GoS K js H (r.bind k) Z) :
    Go K p js H r fun b H1 => ∃ js1 M1 a, Tie K js1 H1 M1 ∧ Ext js H js1 H1 ∧ p js1 H1 a b ∧ GoS K js1 H1 (k (a, M1)) Z := by
  obtain ⟨q, e, f⟩ := g
  obtain ⟨w, e1, e2⟩ := bind_ok e
  exact ⟨w.1, w.2, e1, fun js1 H1 b x1 T1 r1 => ⟨js1, w.2, w.1, T1, x1, r1, q, e2, fun js' H' t' x T r => f js' H' t' (x1.trans T1 x) T r⟩⟩
theorem GoS.ok {js : List Addr} {q : Fl × Ev × Mem} (g : GoS K js H (.ok q) Z) {js' : List Addr} {H' : Hp} (x : Ext js H js' H') (T : Tie K js' H' q.2.2) (S : RepS K js' H' q.2.1 t) : EndP K js' H' Z t q.1 := by
  obtain ⟨_, e, f⟩ := g
  cases e
  exact f _ _ _ x T S
theorem GoS.bad {js : List Addr} {P : Prop} (g : GoS K js H .bad Z) : P := by obtain ⟨_, e, _⟩ := g; cases e
theorem GoS.when {js : List Addr} {c : Prop} [Decidable c] {r : RS} (g : GoS K js H (R.when c r) Z) : c ∧ GoS K js H r Z := by
  obtain ⟨q, e, f⟩ := g
  obtain ⟨h, e⟩ := when_ok e
  exact ⟨h, q, e, f⟩
theorem st_nx (h : tS K (fun s M => .ok (.nx, s, M)) Z t H) : tNext Z t H := by
  obtain ⟨js, M, s, T, S, g⟩ := h
  exact g.ok .refl T S
theorem st_seq {ra rb : Ev → Mem → RS} (h : tS K (fun s M => (ra s M).bind fun q => match q.1 with
    | .nx => rb q.2.1 q.2.2
    | .bk => .ok (.bk, q.2.1, q.2.2)
    | .ct => .ok (.ct, q.2.1, q.2.2)
    | .rt d => .ok (.rt d, q.2.1, q.2.2)) Z t H) : tSeq (tS K ra) (tS K rb) Z t H := by
  obtain ⟨js, M, s, T, S, q, e, f⟩ := h
  obtain ⟨w, e1, e2⟩ := bind_ok e
  obtain ⟨fl, s1, M1⟩ := w
  refine ⟨js, M, s, T, S, _, e1, fun js1 H1 t1 x1 T1 S1 => ?_⟩
  cases fl with
  | nx => exact ⟨js1, M1, s1, T1, S1, q, e2, fun js2 H2 t2 x2 T2 S2 => f js2 H2 t2 (x1.trans T1 x2) T2 S2⟩
  | bk => cases e2; exact f js1 H1 t1 x1 T1 S1
  | ct => cases e2; exact f js1 H1 t1 x1 T1 S1
  | rt d => cases e2; exact f js1 H1 t1 x1 T1 S1
theorem st_drop {ra : Ev → Mem → RD} (h : tS K (fun s M => (ra s M).bind fun p => .ok (.nx, s, p.2)) Z t H) : tDrop (tE K ra) Z t H := by
  obtain ⟨js, M, s, T, S, g⟩ := h
  refine ⟨js, M, s, T, S, g.bind.mono ?_⟩
  rintro x H1 ⟨js1, M1, d, T1, x1, r1, g1⟩
  exact GoS.ok g1 .refl T1 (S.ext T x1)
theorem st_ret {ra : Ev → Mem → RD} (h : tS K (fun s M => (ra s M).bind fun p => .ok (.rt p.1, s, p.2)) Z t H) : tRet (tE K ra) Z t H := by
  obtain ⟨js, M, s, T, S, g⟩ := h
  refine ⟨js, M, s, T, S, g.bind.mono ?_⟩
  rintro x H1 ⟨js1, M1, d, T1, x1, r1, g1⟩
  exact GoS.ok (t := t) g1 .refl T1 (S.ext T x1) x r1
theorem st_if {rc : Ev → Mem → R (Bool × Mem)} {ra rb : Ev → Mem → RS} (h : tS K (fun s M => (rc s M).bind fun p => match p.1 with | true => ra s p.2 | false => rb s p.2) Z t H) : tIfS (tT K rc) (tS K ra) (tS K rb) Z t H := by
  obtain ⟨js, M, s, T, S, g⟩ := h
  refine ⟨js, M, s, T, S, g.bind.mono ?_⟩
  rintro x H1 ⟨js1, M1, d, T1, x1, r1, g1⟩
  have r1 : d = x := r1
  subst r1
  cases d with
  | true => exact ⟨js1, M1, s, T1, S.ext T x1, g1⟩
  | false => exact ⟨js1, M1, s, T1, S.ext T x1, g1⟩
theorem st_asg {ra : Ev → Mem → RD} {set : D → Ev → Mem → R (Ev × Mem)} (h : tS K (fun s M => (ra s M).bind fun p => (set p.1 s p.2).bind fun q => .ok (.nx, q.1, q.2)) Z t H) : tAsg (tE K ra) (gG K set) Z t H := by
  obtain ⟨js, M, s, T, S, g⟩ := h
  refine ⟨js, M, s, T, S, g.bind.mono ?_⟩
  rintro x H1 ⟨js1, M1, d, T1, x1, r1, g1⟩
  refine ⟨js1, M1, s, d, T1, S.ext T x1, r1, g1.bind.mono ?_⟩
  rintro t2 H2 ⟨js2, M2, s2, T2, x2, S2, g2⟩
  exact GoS.ok g2 .refl T2 S2
theorem st_set {ra : Ev → Mem → RD} {i : Nat} (h : tS K (fun s M => (ra s M).bind fun p => .ok (.nx, s.set i (some p.1), p.2)) Z t H) : tAsg (tE K ra) (gName i) Z t H := by
  obtain ⟨js, M, s, T, S, g⟩ := h
  refine ⟨js, M, s, T, S, g.bind.mono ?_⟩
  rintro x H1 ⟨js1, M1, d, T1, x1, r1, g1⟩
  exact GoS.ok g1 .refl T1 ((S.ext T x1).set r1 i)
theorem st_par {ra : Ev → Mem → R (List D × Mem)} {i j : Nat} (h : tS K (fun s M => (ra s M).bind fun p => R.when (p.1.length = [i, j].length) (.ok (.nx, setsE [i, j] p.1 s, p.2))) Z t H) : tPar i j (tA K ra) Z t H := by
  obtain ⟨js, M, s, T, S, g⟩ := h
  refine ⟨js, M, s, T, S, g.bind.mono ?_⟩
  rintro x H1 ⟨js1, M1, ds, T1, x1, r1, g1⟩
  obtain ⟨hl, g1⟩ := g1.when
  have S2 := sets_rep (is := [i, j]) r1 (S.ext T x1)
  have hl' := r1.length
  match x, hl' with
  | [v, w], _ => exact ⟨v, w, rfl, GoS.ok g1 .refl T1 S2⟩
  | [], e => exact absurd (e.symm.trans hl) (by simp)
  | [_], e => exact absurd (e.symm.trans hl) (by simp)
  | _ :: _ :: _ :: _, e => exact absurd (e.symm.trans hl) (by simp)
theorem st_par3 {ra : Ev → Mem → R (List D × Mem)} {i j l : Nat} (h : tS K (fun s M => (ra s M).bind fun p => R.when (p.1.length = [i, j, l].length) (.ok (.nx, setsE [i, j, l] p.1 s, p.2))) Z t H) : tPar3 i j l (tA K ra) Z t H := by
  obtain ⟨js, M, s, T, S, g⟩ := h
  refine ⟨js, M, s, T, S, g.bind.mono ?_⟩
  rintro x H1 ⟨js1, M1, ds, T1, x1, r1, g1⟩
  obtain ⟨hl, g1⟩ := g1.when
  have S2 := sets_rep (is := [i, j, l]) r1 (S.ext T x1)
  have hl' := r1.length
  match x, hl' with
  | [u, v, w], _ => exact ⟨u, v, w, rfl, GoS.ok g1 .refl T1 S2⟩
  | [], e => exact absurd (e.symm.trans hl) (by simp)
  | [_], e => exact absurd (e.symm.trans hl) (by simp)
  | [_, _], e => exact absurd (e.symm.trans hl) (by simp)
  | _ :: _ :: _ :: _ :: _, e => exact absurd (e.symm.trans hl) (by simp)
theorem st_while {rc : Ev → Mem → R (Bool × Mem)} {rb : Ev → Mem → RS} (h : tS K (fun s M => whileR rc rb wf s M) Z t H) : tWhile (tT K rc) (tS K rb) Z t H := by
  obtain ⟨js0, M0, s0, T0, S0, z, e0, f⟩ := h
  refine ⟨fun m t H' => ∃ js M s, Ext js0 H js H' ∧ Tie K js H' M ∧ RepS K js H' s t ∧ whileR rc rb m s M = .ok z, ⟨wf, js0, M0, s0, .refl, T0, S0, e0⟩, ?_⟩
  rintro m t1 H1 ⟨js1, M1, s1, x1, T1, S1, e1⟩
  cases m with
  | zero => cases e1
  | succ m =>
    obtain ⟨p, e2, e3⟩ := bind_ok (show (rc s1 M1).bind _ = .ok z from e1)
    refine ⟨js1, M1, s1, T1, S1, p.1, p.2, e2, fun js2 H2 b x2 T2 eb => ?_⟩
    have eb : p.1 = b := eb
    subst eb
    cases hb : p.1 with
    | false =>
      rw [hb] at e3
      cases e3
      show (if _ = true then _ else _)
      rw [if_neg Bool.false_ne_true]
      exact f js2 H2 t1 (x1.trans T1 x2) T2 (S1.ext T1 x2)
    | true =>
      rw [hb] at e3
      show (if _ = true then _ else _)
      rw [if_pos rfl]
      obtain ⟨q, e4, e5⟩ := bind_ok e3
      obtain ⟨fl, s3, M3⟩ := q
      refine ⟨fun t' H' => ∃ js M s, Ext js0 H js H' ∧ Tie K js H' M ∧ RepS K js H' s t' ∧ whileR rc rb m s M = .ok z, fun t' H' w => ⟨m, Nat.lt_succ_self _, w⟩, js2, p.2, s1, T2, S1.ext T1 x2, _, e4, fun js3 H3 t3 x3 T3 S3 => ?_⟩
      have x := (x1.trans T1 x2).trans T2 x3
      cases fl with
      | nx => exact ⟨js3, M3, s3, x, T3, S3, e5⟩
      | ct => exact ⟨js3, M3, s3, x, T3, S3, e5⟩
      | bk => cases e5; exact f js3 H3 t3 x T3 S3
      | rt d => cases e5; exact f js3 H3 t3 x T3 S3
theorem st_for {ri : Ev → Mem → R (Src × Mem)} {set : D → Ev → Mem → R (Ev × Mem)} {rb : Ev → Mem → RS} (h : tS K (fun s M => (ri s M).bind fun p => forX p.1 set rb wf 0 s p.2) Z t H) : tFor (tI K ri) (gG K set) (tS K rb) Z t H := by
  obtain ⟨js, M, s, T, S, g⟩ := h
  refine ⟨js, M, s, T, S, g.bind.mono ?_⟩
  rintro J H0 ⟨js0, M0, c, T0, x0, src, z, e0, f⟩
  have S0 := S.ext T x0
  refine ⟨fun i m t H' => ∃ js M s, Ext js0 H0 js H' ∧ Tie K js H' M ∧ RepS K js H' s t ∧ forX c set rb m i s M = .ok z, ⟨wf, js0, M0, s, .refl, T0, S0, e0⟩, ?_⟩
  rintro i m t1 H1 ⟨js1, M1, s1, x1, T1, S1, e1⟩
  cases m with
  | zero => cases e1
  | succ m =>
    obtain ⟨o, ho, e2⟩ := of_ok (show R.of (c.at_ M1 i) _ = .ok z from e1)
    cases o with
    | none =>
      cases e2
      exact .inl ⟨(src js1 H1 M1 x1 T1 i).1 ho, f js1 H1 t1 x1 T1 S1⟩
    | some d =>
      obtain ⟨p, e3, e4⟩ := bind_ok e2
      obtain ⟨q, e5, e6⟩ := bind_ok e4
      obtain ⟨fl, s4, M4⟩ := q
      obtain ⟨hgo, hy⟩ := (src js1 H1 M1 x1 T1 i).2 d ho
      refine .inr ⟨hgo, fun t' H' => ∃ js M s, Ext js0 H0 js H' ∧ Tie K js H' M ∧ RepS K js H' s t' ∧ forX c set rb m (i + 1) s M = .ok z, fun t' H' w => ⟨m, Nat.lt_succ_self _, w⟩, fun v H2 y => ?_⟩
      obtain ⟨js2, x2, T2, r2⟩ := hy v H2 y
      refine ⟨js2, M1, s1, d, T2, S1.ext T1 x2, r2, p.1, p.2, e3, fun js3 H3 t3 x3 T3 S3 => ?_⟩
      refine ⟨js3, p.2, p.1, T3, S3, _, e5, fun js4 H4 t4 x4 T4 S4 => ?_⟩
      have x := ((x1.trans T1 x2).trans T2 x3).trans T3 x4
      cases fl with
      | nx => exact ⟨js4, M4, s4, x, T4, S4, e6⟩
      | ct => exact ⟨js4, M4, s4, x, T4, S4, e6⟩
      | bk => cases e6; exact f js4 H4 t4 x T4 S4
      | rt d => cases e6; exact f js4 H4 t4 x T4 S4
end

/-! ### side facts of assignments -/
theorem noComp1 {v : Expr} (h : noComp v = true) (tg : Option Expr) (l : Nat) (env : Env) : swapsWith v tg l env = pure false := by
  cases v <;> first | rfl | exact absurd h Bool.false_ne_true
theorem swap_none {tg v : Expr} (h : (noTup tg || noTup v) = true) (hl : ∀ ts p, tg ≠ .List ts p) (env : Env) : swappedStores [tg] v env = pure none := by
  rw [Bool.or_eq_true] at h
  rcases h with h | h
  · cases tg <;> first | exact absurd h Bool.false_ne_true | exact absurd rfl (hl _ _) | rfl
  · cases v <;> first | exact absurd h Bool.false_ne_true | (cases tg <;> rfl)
theorem swap2 {x y : Str} {px py p1 p2 : Pos} {k1 k2} {a b : Expr} {env : Env} (hk : env.scope.kind = .function) (hx : env.scope.names.lookup x = some .local) (hy : env.scope.names.lookup y = some .local) (hl : px.line = py.line) (hne : x ≠ y)
    (ha : noStar a = true) (hb : noStar b = true) (hf : (foldedForSure 8 a && foldedForSure 8 b) = false) (hc : (constantsAlone 8 a && constantsAlone 8 b) = false) :
    swappedStores [.Tuple [.Name x px, .Name y py] k1 p1] (.Tuple [a, b] k2 p2) env = pure (some [x, y]) := by
  have kb : env.blockKind = .function := by unfold Env.blockKind; rw [hk]; rfl
  have kx : env.kindOf x = some .local := hx
  have ky : env.kindOf y = some .local := hy
  have dd : [x, y].eraseDups.length = 2 := by
    rw [List.eraseDups_cons]
    have : ([y].filter fun b => !b == x) = [y] := by simp [Ne.symm hne]
    rw [this]
    rfl
  have kl : (some NameKind.local == some NameKind.local) = true := rfl
  have e1 : ([a, b].all (foldedForSure 8)) = false := by rw [List.all_cons, List.all_cons, List.all_nil, Bool.and_true]; exact hf
  have e2 : ([a, b].all (constantsAlone 8)) = false := by rw [List.all_cons, List.all_cons, List.all_nil, Bool.and_true]; exact hc
  have e4 : ([Expr.Name x px, Expr.Name y py].filterMap fun
    | .Name id pos => if env.kindOf id == some .local && pos.line == px.line then some id else none
    | _ => none) = [x, y] := by
    simp [kx, ky, hl, kl]
  show (if (!([Expr.Name x px, Expr.Name y py].length == 2 || [Expr.Name x px, Expr.Name y py].length == 3) || [a, b].length != [Expr.Name x px, Expr.Name y py].length || env.blockKind != .function) = true then pure none else _) = _
  rw [if_neg (by rw [kb]; exact Bool.false_ne_true)]
  rw [if_neg (by
    intro h
    obtain ⟨e, he, hs⟩ := List.any_eq_true.mp h
    rcases List.mem_cons.mp he with rfl | he
    · cases e <;> first | exact absurd hs Bool.false_ne_true | exact absurd ha Bool.false_ne_true
    · rcases List.mem_cons.mp he with rfl | he
      · cases e <;> first | exact absurd hs Bool.false_ne_true | exact absurd hb Bool.false_ne_true
      · cases he)]
  have main : ∀ l : List Str, l = [x, y] → (if (l.length != 2 || l.eraseDups.length != l.length) = true then (pure none : Sem (Option (List Str))) else if [a, b].all (foldedForSure 8) = true then pure none else if [a, b].all (constantsAlone 8) = true then ((unsupported "assign.tuple-of-constant-expressions:order-of-the-stores" : Sem Unit) >>= fun _ => pure (some l)) else pure (some l)) = pure (some [x, y]) := by
    rintro _ rfl
    rw [if_neg (by rw [dd]; exact Bool.false_ne_true), if_neg (by rw [e1]; decide), if_neg (by rw [e2]; decide)]
  exact main _ e4
theorem swap3 {x y z : Str} {px py pz p1 p2 : Pos} {k1 k2} {a b c : Expr} {env : Env} (hk : env.scope.kind = .function) (hx : env.scope.names.lookup x = some .local) (hy : env.scope.names.lookup y = some .local) (hz : env.scope.names.lookup z = some .local) (hl : px.line = py.line) (hl2 : px.line = pz.line) (hne : x ≠ y) (hne2 : x ≠ z) (hne3 : y ≠ z)
    (ha : noStar a = true) (hb : noStar b = true) (hd : noStar c = true) (hf : (foldedForSure 8 a && foldedForSure 8 b && foldedForSure 8 c) = false) (hc : (constantsAlone 8 a && constantsAlone 8 b && constantsAlone 8 c) = false) :
    swappedStores [.Tuple [.Name x px, .Name y py, .Name z pz] k1 p1] (.Tuple [a, b, c] k2 p2) env = pure (some [x, y, z]) := by
  have kb : env.blockKind = .function := by unfold Env.blockKind; rw [hk]; rfl
  have kx : env.kindOf x = some .local := hx
  have ky : env.kindOf y = some .local := hy
  have kz : env.kindOf z = some .local := hz
  have dd : [x, y, z].eraseDups.length = 3 := by
    rw [List.eraseDups_cons]
    have : ([y, z].filter fun b => !b == x) = [y, z] := by simp [Ne.symm hne, Ne.symm hne2]
    rw [this, List.eraseDups_cons]
    have : ([z].filter fun b => !b == y) = [z] := by simp [Ne.symm hne3]
    rw [this]
    rfl
  have kl : (some NameKind.local == some NameKind.local) = true := rfl
  have e1 : ([a, b, c].all (foldedForSure 8)) = false := by rw [List.all_cons, List.all_cons, List.all_cons, List.all_nil, Bool.and_true, ← Bool.and_assoc]; exact hf
  have e2 : ([a, b, c].all (constantsAlone 8)) = false := by rw [List.all_cons, List.all_cons, List.all_cons, List.all_nil, Bool.and_true, ← Bool.and_assoc]; exact hc
  have e4 : ([Expr.Name x px, Expr.Name y py, Expr.Name z pz].filterMap fun
    | .Name id pos => if env.kindOf id == some .local && pos.line == px.line then some id else none
    | _ => none) = [x, y, z] := by
    simp [kx, ky, kz, ← hl, ← hl2, kl]
  show (if (!([Expr.Name x px, Expr.Name y py, Expr.Name z pz].length == 2 || [Expr.Name x px, Expr.Name y py, Expr.Name z pz].length == 3) || [a, b, c].length != [Expr.Name x px, Expr.Name y py, Expr.Name z pz].length || env.blockKind != .function) = true then pure none else _) = _
  rw [if_neg (by rw [kb]; exact Bool.false_ne_true)]
  rw [if_neg (by
    intro h
    obtain ⟨e, he, hs⟩ := List.any_eq_true.mp h
    rcases List.mem_cons.mp he with rfl | he
    · cases e <;> first | exact absurd hs Bool.false_ne_true | exact absurd ha Bool.false_ne_true
    · rcases List.mem_cons.mp he with rfl | he
      · cases e <;> first | exact absurd hs Bool.false_ne_true | exact absurd hb Bool.false_ne_true
      · rcases List.mem_cons.mp he with rfl | he
        · cases e <;> first | exact absurd hs Bool.false_ne_true | exact absurd hd Bool.false_ne_true
        · cases he)]
  have main : ∀ l : List Str, l = [x, y, z] → (if (l.length != 3 || l.eraseDups.length != l.length) = true then (pure none : Sem (Option (List Str))) else if [a, b, c].all (foldedForSure 8) = true then pure none else if [a, b, c].all (constantsAlone 8) = true then ((unsupported "assign.tuple-of-constant-expressions:order-of-the-stores" : Sem Unit) >>= fun _ => pure (some l)) else pure (some l)) = pure (some [x, y, z]) := by
    rintro _ rfl
    rw [if_neg (by rw [dd]; exact Bool.false_ne_true), if_neg (by rw [e1]; decide), if_neg (by rw [e2]; decide)]
  exact main _ e4
theorem fm_short {α β : Type} {f : α → Option β} : ∀ {l : List α}, (∃ x ∈ l, f x = none) → (l.filterMap f).length < l.length
  | [], ⟨x, h, _⟩ => by cases h
  | y :: l, ⟨x, h, e⟩ => by
    rw [List.filterMap_cons, List.length_cons]
    rcases List.mem_cons.mp h with rfl | h
    · rw [e]; exact Nat.lt_succ_of_le (List.length_filterMap_le f l)
    · have := fm_short ⟨x, h, e⟩
      cases f y with
      | none => exact Nat.lt_succ_of_lt this
      | some z => rw [List.length_cons]; omega
theorem bnot {b : Bool} (h : (!b) = true) : b = false := by cases b; rfl; cases h
theorem swNo_run {c : Scope} {tg v : Expr} {env : Env} (hs : env.scope = c) (h : swNo c tg v = true) (hl : ∀ ts p, tg ≠ .List ts p) : swappedStores [tg] v env = pure none := by
  unfold swNo at h
  rw [Bool.or_eq_true] at h
  rcases h with h | h
  · exact swap_none h hl env
  · split at h
    · rename_i ts k p vs k2 p2
      simp only [Bool.or_eq_true] at h
      have body : ∀ (A B C D E : Prop) [Decidable A] [Decidable B] [Decidable C] [Decidable D] [Decidable E] (u w : Sem (Option (List Str))), (A ∨ C ∨ D) → (if A then (pure none : Sem (Option (List Str))) else if B then pure none else if C then pure none else if D then pure none else if E then u else w) = pure none := by
        intro A B C D E _ _ _ _ _ u w h
        rcases h with h | h | h <;> simp [h]
      refine body _ _ _ _ _ _ _ ?_
      rcases h with ((h | h) | h) | h
      · refine .inl ?_
        rw [h]; rfl
      · refine .inl ?_
        rw [h, Bool.or_true]; rfl
      · refine .inr (.inl ?_)
        have h : ts.all (locN c) = false := bnot h
        obtain ⟨e, he, hn⟩ := List.all_eq_false.mp h
        have : (ts.filterMap fun
          | .Name id pos => if env.kindOf id == some .local && pos.line == (ts.head?.map (·.pos.line)).getD 0 then some id else none
          | _ => none).length < ts.length := by
          refine fm_short ⟨e, he, ?_⟩
          cases e with
          | Name x q =>
            have hx : ¬ env.scope.names.lookup x = some .local := by rw [hs]; intro z; exact hn (decide_eq_true z)
            have : (env.kindOf x == some NameKind.local) = false := by
              show (env.scope.names.lookup x == some NameKind.local) = false
              cases q : env.scope.names.lookup x with
              | none => rfl
              | some k => cases k <;> first | rfl | exact absurd q hx
            show (if (env.kindOf x == some NameKind.local && _) = true then _ else none) = none
            rw [this]; rfl
          | _ => rfl
        rw [Bool.or_eq_true]
        exact .inl (bne_iff_ne.mpr (Nat.ne_of_lt this))
      · exact .inr (.inr h)
    · cases h
theorem noSwap_tg {tg v : Expr} {l : Nat} {env : Env} (h : ∀ x p, tg ≠ .Name x p) : swapsWith v (some tg) l env = pure false := by
  cases v <;> first | rfl | (cases tg <;> first | rfl | exact absurd rfl (h _ _))
theorem noSwap_nm {x : Str} {p : Pos} {v : Expr} {l : Nat} {env : Env} (h : ¬ env.scope.names.lookup x = some .local) : swapsWith v (some (.Name x p)) l env = pure false := by
  have e : (env.kindOf x == some NameKind.local) = false := by
    show (env.scope.names.lookup x == some NameKind.local) = false
    cases q : env.scope.names.lookup x with
    | none => rfl
    | some k => cases k <;> first | rfl | exact absurd q h
  cases v <;> first | rfl | (unfold swapsWith; simp only [e, Bool.and_false, Bool.false_and])
end Cp

namespace Cp
open PySem L2
section
variable {G : Mdl} {N : List Str} {n : Nat}
theorem sG0 {t : Tg} {c : Scope} {f : Str → Bool} {X : Cx} (k : Okx G N c f n X) {x : Expr} (h : mG G N c f t x = true) : PG X x (gG X.K (evG G (callF G n) t)) := by
  refine pg_weak (sG t k t.names (List.all_eq_true.mpr fun i hi => List.contains_iff_mem.mpr hi) x h) fun v t' H Q ⟨js, M, s, d, T, S, r, g⟩ => ?_
  exact ⟨js, M, s, d, T, S, r, g.mono fun t2 H2 q _ => q⟩
theorem mG_shape {c : Scope} {f : Str → Bool} {t : Tg} {x : Expr} (h : mG G N c f t x = true) : (∀ ts p, x ≠ .List ts p) ∧ ∀ env, (assignEach [x] env).map (·.2) = [assign x env] := by
  cases t <;> cases x <;> first | exact absurd h Bool.false_ne_true | exact ⟨fun _ _ e => (nomatch e), fun _ => rfl⟩
theorem asg_run {t : Tg} {e : E} {c : Scope} {f : Str → Bool} {X : Cx} (k : Okx G N c f n X) {tg v : Expr} {p : Pos} (h1 : ∀ x p, tg ≠ .Name x p) (h2 : swNo c tg v = true) (h3 : mG G N c f t tg = true) (h4 : mE G N c f e v = true) :
    PS X (.Assign [tg] v p) (tS X.K fun s M => evS G (callF G n) (.asg t e) s M) := by
  obtain ⟨g1, g2⟩ := mG_shape h3
  exact ps_weak (ps_asg (sE e k v h4) (sG0 k h3) (noSwap_tg h1) (swNo_run k.sc h2 g1) (g2 _)) fun D s H q => st_asg q
theorem set_run {i : Nat} {e : E} {c : Scope} {f : Str → Bool} {X : Cx} (k : Okx G N c f n X) {y : Str} {v : Expr} {py p : Pos} (h1 : (noComp v || !locB c y) = true) (h2 : N[i]? = some y) (h3 : stoB c f y = true) (h4 : mE G N c f e v = true) :
    PS X (.Assign [.Name y py] v p) (tS X.K fun s M => evS G (callF G n) (.asg (.nm i) e) s M) := by
  obtain ⟨l1, l2⟩ := k.sto h3
  have sw : ∀ l, swapsWith v (some (.Name y py)) l X.env = pure false := fun l => by
    rw [Bool.or_eq_true] at h1
    rcases h1 with h1 | h1
    · exact noComp1 h1 _ _ _
    · exact noSwap_nm (by rw [k.sc]; exact of_decide_eq_false (bnot h1))
  exact ps_weak (ps_set k.nod (k.ix h2) l1 (sE e k v h4) (sw _) l2) fun D s H q => st_set q
theorem par2_run {i j : Nat} {es : Es} {c : Scope} {f : Str → Bool} {X : Cx} (k : Okx G N c f n X) (hk : X.env.scope.kind = .function) {x y : Str} {px py p1 p2 p : Pos} {k1 k2} {a b : Expr}
    (h1 : N[i]? = some x) (h2 : N[j]? = some y) (h3 : i ≠ j) (h4 : c.names.lookup x = some .local) (h5 : c.names.lookup y = some .local) (h6 : px.line = py.line) (h7 : noStar a = true) (h8 : noStar b = true)
    (h9 : (foldedForSure 8 a && foldedForSure 8 b) = false) (h10 : (constantsAlone 8 a && constantsAlone 8 b) = false) (h11 : mEs G N c f es [a, b] = true) :
    PS X (.Assign [.Tuple [.Name x px, .Name y py] k1 p1] (.Tuple [a, b] k2 p2) p) (tS X.K fun s M => evS G (callF G n) (.par [i, j] es) s M) := by
  have hx : X.env.scope.names.lookup x = some .local := by rw [k.sc]; exact h4
  have hy : X.env.scope.names.lookup y = some .local := by rw [k.sc]; exact h5
  have hne : x ≠ y := by
    rintro rfl
    obtain ⟨a1, a2⟩ := List.getElem?_eq_some_iff.mp h1
    obtain ⟨b1, b2⟩ := List.getElem?_eq_some_iff.mp h2
    exact h3 ((List.getElem_inj k.nd).mp (a2.trans b2.symm))
  exact ps_weak (ps_par k.calm k.nod (k.ix h1) (k.ix h2) h3 hx hy (sEs es k _ h11) (swap2 hk hx hy h6 hne h7 h8 h9 h10) rfl) fun D s H q => st_par q
theorem par3_run {i j l : Nat} {es : Es} {c : Scope} {f : Str → Bool} {X : Cx} (k : Okx G N c f n X) (hk : X.env.scope.kind = .function) {x y z : Str} {px py pz p1 p2 p : Pos} {k1 k2} {a b d : Expr}
    (h1 : N[i]? = some x) (h2 : N[j]? = some y) (h2' : N[l]? = some z) (h3 : i ≠ j) (h3' : i ≠ l) (h3'' : j ≠ l) (h4 : c.names.lookup x = some .local) (h5 : c.names.lookup y = some .local) (h5' : c.names.lookup z = some .local) (h6 : px.line = py.line) (h6' : px.line = pz.line) (h7 : noStar a = true) (h8 : noStar b = true) (h8' : noStar d = true)
    (h9 : (foldedForSure 8 a && foldedForSure 8 b && foldedForSure 8 d) = false) (h10 : (constantsAlone 8 a && constantsAlone 8 b && constantsAlone 8 d) = false) (h11 : mEs G N c f es [a, b, d] = true) :
    PS X (.Assign [.Tuple [.Name x px, .Name y py, .Name z pz] k1 p1] (.Tuple [a, b, d] k2 p2) p) (tS X.K fun s M => evS G (callF G n) (.par [i, j, l] es) s M) := by
  have hx : X.env.scope.names.lookup x = some .local := by rw [k.sc]; exact h4
  have hy : X.env.scope.names.lookup y = some .local := by rw [k.sc]; exact h5
  have hz : X.env.scope.names.lookup z = some .local := by rw [k.sc]; exact h5'
  have inj : ∀ {i j : Nat} {x : Str}, N[i]? = some x → N[j]? = some x → i = j := fun {i j x} e e' => by
    obtain ⟨a1, a2⟩ := List.getElem?_eq_some_iff.mp e
    obtain ⟨b1, b2⟩ := List.getElem?_eq_some_iff.mp e'
    exact (List.getElem_inj k.nd).mp (a2.trans b2.symm)
  have n1 : x ≠ y := by rintro rfl; exact h3 (inj h1 h2)
  have n2 : x ≠ z := by rintro rfl; exact h3' (inj h1 h2')
  have n3 : y ≠ z := by rintro rfl; exact h3'' (inj h2 h2')
  exact ps_weak (ps_par3 k.calm k.nod (k.ix h1) (k.ix h2) (k.ix h2') h3 h3' h3'' hx hy hz (sEs es k _ h11) (swap3 hk hx hy hz h6 h6' n1 n2 n3 h7 h8 h8' h9 h10) rfl) fun D s H q => st_par3 q
theorem par_run {is : List Nat} {es : Es} {c : Scope} {f : Str → Bool} {X : Cx} (k : Okx G N c f n X) (hk : X.env.scope.kind = .function) {x : Stmt} (h : mS G N c f (.par is es) x = true) : PS X x (tS X.K fun s M => evS G (callF G n) (.par is es) s M) := by
  unfold mS at h
  split at h
  all_goals first | contradiction | skip
  · rename_i e1 e2
    cases e2
    simp only [Bool.and_eq_true, decide_eq_true_eq] at h
    obtain ⟨⟨⟨⟨⟨⟨⟨⟨⟨⟨a1, a2⟩, a3⟩, a4⟩, a5⟩, a6⟩, a7⟩, a8⟩, a9⟩, a10⟩, a11⟩ := h
    exact par2_run k hk a1 a2 a3 a4 a5 a6 a7 a8 (bnot a9) (bnot a10) a11
  · rename_i e1 e2
    cases e2
    simp only [Bool.and_eq_true, decide_eq_true_eq] at h
    obtain ⟨⟨⟨⟨⟨⟨⟨⟨⟨⟨⟨⟨⟨⟨⟨⟨a1, a2⟩, a3⟩, a4⟩, a5⟩, a6⟩, b1⟩, b2⟩, b3⟩, b4⟩, b5⟩, a7⟩, a8⟩, a12⟩, a9⟩, a10⟩, a11⟩ := h
    exact par3_run k hk a1 a2 a3 a4 a5 a6 b1 b2 b3 b4 b5 a7 a8 a12 (bnot a9) (bnot a10) a11
theorem mS_nm {i : Nat} {e : E} {c : Scope} {f : Str → Bool} {tg v : Expr} {p : Pos} (h : ∀ x q, tg ≠ .Name x q) : mS G N c f (.asg (.nm i) e) (.Assign [tg] v p) = (swNo c tg v && mG G N c f (.nm i) tg && mE G N c f e v) := by
  cases tg <;> first | rfl | exact absurd rfl (h _ _)
mutual
theorem sS : ∀ (a : S) {c : Scope} {f : Str → Bool} {X : Cx} (k : Okx G N c f n X) (hk : X.env.scope.kind = .function) (x : Stmt), mS G N c f a x = true → PS X x (tS X.K fun s M => evS G (callF G n) a s M)
  | .asg t e, c, f, X, k, hk, x, h => by
    cases x with
    | Assign ts v p =>
      cases ts with
      | nil => (cases t <;> exact absurd h Bool.false_ne_true)
      | cons tg ts =>
        cases ts with
        | cons _ _ => (cases t <;> (try cases tg) <;> exact absurd h Bool.false_ne_true)
        | nil =>
          cases t with
          | nm i =>
            by_cases hn : ∃ y py, tg = .Name y py
            · obtain ⟨y, py, rfl⟩ := hn
              have h : ((noComp v || !locB c y) && decide (N[i]? = some y) && stoB c f y && mE G N c f e v) = true := h
              simp only [Bool.and_eq_true, decide_eq_true_eq] at h
              exact set_run k h.1.1.1 h.1.1.2 h.1.2 h.2
            · rw [mS_nm fun x q z => hn ⟨x, q, z⟩] at h
              simp only [Bool.and_eq_true] at h
              obtain ⟨⟨_, h⟩, _⟩ := h
              cases tg <;> first | exact absurd h Bool.false_ne_true | exact absurd ⟨_, _, rfl⟩ hn
          | tp is =>
            have h : (swNo c tg v && mG G N c f (.tp is) tg && mE G N c f e v) = true := h
            simp only [Bool.and_eq_true] at h
            exact asg_run k (fun x p e => by subst e; exact absurd h.1.2 Bool.false_ne_true) h.1.1 h.1.2 h.2
          | sb o i =>
            have h : (swNo c tg v && mG G N c f (.sb o i) tg && mE G N c f e v) = true := h
            simp only [Bool.and_eq_true] at h
            exact asg_run k (fun x p e => by subst e; exact absurd h.1.2 Bool.false_ne_true) h.1.1 h.1.2 h.2
    | _ => (cases t <;> exact absurd h Bool.false_ne_true)
  | .asgc i e, c, f, X, k, hk, x, h => by
    cases x with
    | Assign ts v p =>
      cases ts with
      | nil => exact absurd h Bool.false_ne_true
      | cons tg ts =>
        cases tg with
        | Name y py =>
          cases ts with
          | cons _ _ => exact absurd h Bool.false_ne_true
          | nil =>
            cases v with
            | ListComp z gs scope pos =>
              have h : (decide (N[i]? = some y) && decide (c.names.lookup y = some .local) && decide (py.line = pos.line) &&
                !(scope.names.any fun (n, k) => n == y && (k == .local || k == .cell)) && mE G N c f e (.ListComp z gs scope pos)) = true := h
              simp only [Bool.and_eq_true, decide_eq_true_eq] at h
              obtain ⟨⟨⟨⟨h1, h2⟩, h3⟩, h4⟩, h5⟩ := h
              have hy : X.env.scope.names.lookup y = some .local := by rw [k.sc]; exact h2
              cases e with
              | lc elt t it cond own =>
                cases gs with
                | nil => exact absurd h5 Bool.false_ne_true
                | cons g gs =>
                  obtain ⟨tg, iter, ifs, kk⟩ := g
                  cases gs with
                  | cons _ _ => exact absurd h5 Bool.false_ne_true
                  | nil =>
                    have h : (decide (kk = 0) && noSet iter && t.names.all own.contains && blkC N c scope (own.map fun i => (N.getD i Str.empty, i)) && mI G N c f it iter &&
                      mG G N (relS scope c) (fun x => scope.names.lookup x == some .cell) t tg && mIfs G N (relS scope c) (fun x => scope.names.lookup x == some .cell) cond ifs && mE G N (relS scope c) (fun x => scope.names.lookup x == some .cell) elt z) = true := h5
                    simp only [Bool.and_eq_true, decide_eq_true_eq] at h
                    obtain ⟨⟨⟨⟨⟨⟨⟨a1, a2⟩, a3⟩, a4⟩, a5⟩, a6⟩, a7⟩, a8⟩ := h
                    subst a1
                    have ok : BlkOk X.N X.env.scope scope (own.map fun i => (N.getD i Str.empty, i)) := by rw [k.hN, k.sc]; exact blkOk_by a4
                    have sw : swapsWith (.ListComp z [⟨tg, iter, ifs, 0⟩] scope pos) (some (.Name y py)) p.line X.env = pure true := sw_true hk hy (by rw [h3]; exact beq_self_eq_true _) (bnot h4)
                    refine ps_weak (ps_setLc (g := fun v t' H Q => gG X.K (evG G (callF G n) t) v t' H fun t2 H2 => L2.wipe t2 own = L2.wipe t' own → Q t2 H2) (te := tE X.K (ev G (callF G n) elt)) (tt := tT X.K fun s M => evTs G (callF G n) cond true s M) k.calm k.nod (k.ix h1) hy sw (sI it k iter tg a5) ok (fun s H C cl fp => sG t (k.blk scope s H C cl fp) own a3 tg a6) (fun s H C cl fp => sIf cond (k.blk scope s H C cl fp) ifs a7)
                      (fun s H C cl fp => sE elt (k.blk scope s H C cl fp) z a8) (noSet1 a2 _)) fun D s H q => ?_
                    have q := st_set (ra := ev G (callF G n) (.lc elt t it cond own)) (i := i) q
                    exact lam_lc (N := N) q
              | _ => exact absurd h5 Bool.false_ne_true
            | _ => exact absurd h Bool.false_ne_true
        | _ => exact absurd h Bool.false_ne_true
    | _ => exact absurd h Bool.false_ne_true
  | .par is es, c, f, X, k, hk, x, h => par_run k hk h
  | .expr e, c, f, X, k, hk, x, h => by
    cases x with
    | Expr v p =>
      have h : (noComp v && mE G N c f e v) = true := h
      rw [Bool.and_eq_true] at h
      exact ps_weak (ps_expr (sE e k v h.2) (noComp1 h.1 _ _ _)) fun D s H q => st_drop q
    | _ => exact absurd h Bool.false_ne_true
  | .iff t a b, c, f, X, k, hk, x, h => by
    cases x with
    | If y u v p =>
      have h : (mT G N c f t y && mSs G N c f a u && mSs G N c f b v) = true := h
      simp only [Bool.and_eq_true] at h
      exact ps_weak (ps_if (sT t k y h.1.1) (sSs a k hk u h.1.2) (sSs b k hk v h.2)) fun D s H q => st_if q
    | _ => exact absurd h Bool.false_ne_true
  | .whl t a, c, f, X, k, hk, x, h => by
    cases x with
    | While y u o p =>
      cases o with
      | cons _ _ => exact absurd h Bool.false_ne_true
      | nil =>
        have h : (mT G N c f t y && mSs G N c f a u) = true := h
        simp only [Bool.and_eq_true] at h
        exact ps_weak (ps_while (by rw [k.xe]; exact PassesOwn.never) (sT t k y h.1) (sSs a k hk u h.2)) fun D s H q => st_while q
    | _ => exact absurd h Bool.false_ne_true
  | .fr t it b, c, f, X, k, hk, x, h => by
    cases x with
    | For tg iter y o p =>
      cases o with
      | cons _ _ => exact absurd h Bool.false_ne_true
      | nil =>
        have h : (noSet iter && mG G N c f t tg && mI G N c f it iter && mSs G N c f b y) = true := h
        simp only [Bool.and_eq_true] at h
        exact ps_weak (ps_for (by rw [k.xe]; exact PassesOwn.never) k.calm (sI it k iter tg h.1.2) (sG0 k h.1.1.2) (sSs b k hk y h.2) (noSet1 h.1.1.1 _)) fun D s H q => st_for q
    | _ => exact absurd h Bool.false_ne_true
  | .ret e, c, f, X, k, hk, x, h => by
    cases x with
    | Return v p =>
      cases v with
      | none => exact absurd h Bool.false_ne_true
      | some v => exact ps_weak (ps_ret (sE e k v h)) fun D s H q => st_ret q
    | _ => exact absurd h Bool.false_ne_true
  | .ret0, c, f, X, k, hk, x, h => by
    cases x with
    | Return v p =>
      cases v with
      | some v => exact absurd h Bool.false_ne_true
      | none => exact ps_weak ps_retN fun D s H ⟨js, M, s', T, S, g⟩ => GoS.ok (t := s) g .refl T S .non .non
    | _ => exact absurd h Bool.false_ne_true
  | .brk, c, f, X, k, hk, x, h => by
    cases x with
    | Break p => exact ps_weak ps_break fun D s H ⟨js, M, s', T, S, g⟩ => GoS.ok (t := s) g .refl T S
    | _ => exact absurd h Bool.false_ne_true
  | .cont, c, f, X, k, hk, x, h => by
    cases x with
    | Continue p => exact ps_weak ps_continue fun D s H ⟨js, M, s', T, S, g⟩ => GoS.ok (t := s) g .refl T S
    | _ => exact absurd h Bool.false_ne_true
  | .pass, c, f, X, k, hk, x, h => by
    cases x with
    | Pass p => exact ps_weak ps_pass fun D s H q => st_nx q
    | _ => exact absurd h Bool.false_ne_true
  | .doc, c, f, X, k, hk, x, h => by
    cases x with
    | Expr v p =>
      cases v with
      | Constant z j q =>
        cases z with
        | str z => exact ps_weak ps_doc fun D s H q => st_nx q
        | _ => exact absurd h Bool.false_ne_true
      | _ => exact absurd h Bool.false_ne_true
    | _ => exact absurd h Bool.false_ne_true
theorem sSs : ∀ (ss : Ss) {c : Scope} {f : Str → Bool} {X : Cx} (k : Okx G N c f n X) (hk : X.env.scope.kind = .function) (xs : List Stmt), mSs G N c f ss xs = true → PSs X xs (tS X.K fun s M => evSs G (callF G n) ss s M)
  | .nil, c, f, X, k, hk, [], h => pss_weak pss_nil fun D s H q => st_nx q
  | .nil, c, f, X, k, hk, _ :: _, h => absurd h Bool.false_ne_true
  | .cons _ _, c, f, X, k, hk, [], h => absurd h Bool.false_ne_true
  | .cons s ss, c, f, X, k, hk, x :: xs, h => by
    have h : (mS G N c f s x && mSs G N c f ss xs) = true := h
    rw [Bool.and_eq_true] at h
    exact pss_weak (pss_cons (sS s k hk x h.1) (sSs ss k hk xs h.2)) fun D s H q => st_seq q
end
end
end Cp

/-! Defs, the module, the law. -/
namespace Cp
open PySem L2

theorem start_rep {K : PySem.W.Frag} {js : List Addr} {H : Hp} {ds : List D} {vs : List V} (N : List Str) (r : Reps K js H ds vs) : RepS K js H (ds.map some ++ List.replicate (N.length - ds.length) none) (L2.start N vs) := by
  have hl := r.length
  refine ⟨by simp [L2.start, hl], fun i d h => ?_⟩
  by_cases hi : i < ds.length
  · rw [List.getElem?_append_left (by simpa using hi), List.getElem?_map] at h
    obtain ⟨x, hx, e⟩ := Option.map_eq_some_iff.mp h
    cases e
    obtain ⟨v, hv, rv⟩ := r.get hx
    refine ⟨v, ?_, rv⟩
    unfold L2.start
    rw [List.getElem?_append_left (by rw [List.length_map]; omega), List.getElem?_map, hv]
    rfl
  · rw [List.getElem?_append_right (by simpa using hi), List.getElem?_replicate] at h
    split at h <;> cases h
section
variable {G : Mdl} {n : Nat} {P : Program} {w : World} {K : PySem.W.Frag} {mg : Str → Option Value} {base : Heap}
/-- from a def's end to what is asked behind it -/
theorem end_go {js : List Addr} {H : Hp} {r : RS} {Q : VK} (g : Go K (Rep K) js H (endF r) Q) : GoS K js H r { nx := fun _ H' => Q .non H', rt := Q } := by
  obtain ⟨d, M', e, f⟩ := g
  obtain ⟨q, e1, e2⟩ := bind_ok e
  refine ⟨q, e1, fun js' H' t' x T S => ?_⟩
  obtain ⟨fl, s1, M1⟩ := q
  cases fl with
  | nx => cases e2; exact f js' H' .non x T .non
  | rt d => cases e2; exact fun v r => f js' H' v x T r
  | bk => cases e2
  | ct => cases e2
theorem fnG_of {a : Addr} {g : Nat} {F : Fn} {x qual : Str} {ar : Arguments} {bd : List Stmt} {sc : Scope} {d1 d2 d3 d4 d5 d6 d7 : Value} {o1 o2 : Option Addr} {sl : Array (Option Value)} (hF : G.fns[g]? = some F)
    (at_ : K.lookup a = some ⟨d7, o1, .func (PySem.W.fnOf x qual ar bd sc d1 d2 d3 d4 o2 d5 d6), sl⟩) (cd : PySem.W.codeIn K d5 qual = true) (S : FnScope F.names F.ps sc) (hm : mSs G F.names sc (fun _ => true) F.body bd = true)
    (md : MdlOk G n P w K mg base) : FnG P w K mg base (n + 1) a (PySem.W.fnOf x qual ar bd sc d1 d2 d3 d4 o2 d5 d6) F.ps (spG K G (n + 1) g) := by
  have ln : ∀ vs H Q E, spG K G (n + 1) g vs H Q E → vs.length = F.ps.length := fun vs H Q E ⟨_, _, _, _, r, hl, _⟩ => r.length ▸ hl F hF
  refine ⟨ln, fun A outer s H args us vs Q E gd room en bnd rv hsp => ?_⟩
  have hvs := ln _ _ _ _ hsp
  have look := fun b o e => (en.bs b o e).1
  have there := en.mod.kin.keeps look
  have easy := en.mod.nolimit.keeps look
  have kinds : ∀ q ∈ F.ps.zip us, sc.names.lookup q.1 = some .local ∨ (sc.names.lookup q.1 = some .cell ∧ ((cellsFrom (s.heap.objs.size + 1) sc.names []).lookup q.1).isSome = true) := by
    rintro ⟨y, u⟩ hy
    exact (S.par y (List.of_mem_zip hy).1).imp id fun q => ⟨q, PySem.W.cellsFrom_some _ _ _ (.inl q)⟩
  refine codeAny_call_function room.depth (there _ _ at_) rfl S.co S.gen rfl (PySem.W.codeRec_of there cd) (bnd _ _ _ _ ?_)
  refine wpAny_newFunctionEnv_cells S.kind kinds fun env he s1 x => ?_
  subst he
  refine ⟨easy.keeps x.toInCall.keep, codeAny_func ?_⟩
  have I : Inv (cxOf CX0 P w K mg base F.names qual sc a d5 A outer s H E) [] (L2.start F.names vs) H s1 := inv_start S room.hd en hvs rv x
  have ok : Okx G F.names sc (fun _ => true) n (cxOf CX0 P w K mg base F.names qual sc a d5 A outer s H E).nox := ⟨rfl, S.nd, rfl, rfl, rfl, rfl, room.deeper _, gd, md⟩
  obtain ⟨js, M, ds, T, r, hl, go⟩ := hsp
  have go' : Go K (Rep K) js H (R.when (ds.length = F.ps.length) (endF (evSs G (callF G n) F.body (ds.map some ++ List.replicate (F.names.length - F.ps.length) none) M))) Q := by
    have z : callF G (n + 1) g ds M = R.when (ds.length = F.ps.length) (endF (evSs G (callF G n) F.body (ds.map some ++ List.replicate (F.names.length - F.ps.length) none) M)) := by
      show (match G.fns[g]? with | some F => R.when (ds.length = F.ps.length) (endF (evSs G (callF G n) F.body (ds.map some ++ List.replicate (F.names.length - F.ps.length) none) M)) | none => .bad) = _
      rw [hF]
    rw [← z]; exact go
  obtain ⟨hd, go'⟩ := go'.when
  rw [← hd] at go'
  have run := (sSs F.body ok S.kind bd hm).nox.run [] s1 (L2.start F.names vs) H _ I ⟨js, M, _, T, start_rep F.names r, end_go go'⟩
  refine wpAny_mono run (fun fl s' hs => ?_) fun e s' hs => hs
  cases fl with
  | ret u => obtain ⟨v, σ', H', J, rv', q⟩ := hs; exact ⟨v, H', J.os, J.bare, J.base, J.hok, rv', q⟩
  | next => obtain ⟨σ', H', J, q⟩ := hs; exact ⟨V.non, H', J.os, J.bare, J.base, J.hok, rfl, q⟩
  | brk => obtain ⟨_, _, _, q⟩ := hs; exact q.elim
  | cont => obtain ⟨_, _, _, q⟩ := hs; exact q.elim

theorem vals_room {vs : List V} {its : Array Value} (h : Vals vs its.toList) (k : vs.length ≤ 1000) : its.size ≤ sizeLine := by
  rw [← Array.length_toList, ← h.length, sizeLine_eq]; omega
/-! ### all defs -/
/-- a def of the text that the compact form tells -/
structure DefG (G : Mdl) (K : PySem.W.Frag) (mg : Str → Option Value) (F : Fn) : Prop where
  ex : ∃ (a : Addr) (x qual : Str) (ar : Arguments) (bd : List Stmt) (sc : Scope) (d1 d2 d3 d4 d5 d6 d7 : Value) (o1 o2 : Option Addr) (sl : Array (Option Value)), mg F.name = some (.ref a) ∧ PySem.W.keepIn K (.ref a) = true ∧
    K.lookup a = some ⟨d7, o1, .func (PySem.W.fnOf x qual ar bd sc d1 d2 d3 d4 o2 d5 d6), sl⟩ ∧ PySem.W.codeIn K d5 qual = true ∧ Binds K (PySem.W.fnOf x qual ar bd sc d1 d2 d3 d4 o2 d5 d6) F.ps [] ∧
    FnScope F.names F.ps sc ∧ mSs G F.names sc (fun _ => true) F.body bd = true
structure Mod0 (G : Mdl) (K : PySem.W.Frag) (mg : Str → Option Value) : Prop where
  blt : ∀ x ∈ bltNames, mg x = none
  con : ∀ p ∈ G.con, ∃ u v, mg p.1 = some u ∧ RelV v u ∧ ∀ js H, Rep K js H p.2 v
  fn : ∀ F ∈ G.fns, DefG G K mg F
theorem mdl_ok (m : Mod0 G K mg) : ∀ n, MdlOk G n P w K mg base
  | 0 => ⟨m.blt, fun g p e => m.con p (List.mem_of_getElem? e), fun f F e => by
      obtain ⟨a, x, qual, ar, bd, sc, d1, d2, d3, d4, d5, d6, d7, o1, o2, sl, h1, h2, h3, h4, h5, h6, h7⟩ := (m.fn F (List.mem_of_getElem? e)).ex
      refine ⟨a, _, h1, h2, h5, fun vs H Q E ⟨_, _, _, _, _, _, go⟩ => go.bad, fun A outer s H args us vs Q E gd room en bnd rv ⟨_, _, _, _, _, _, go⟩ => go.bad⟩⟩
  | n + 1 => ⟨m.blt, fun g p e => m.con p (List.mem_of_getElem? e), fun f F e => by
      obtain ⟨a, x, qual, ar, bd, sc, d1, d2, d3, d4, d5, d6, d7, o1, o2, sl, h1, h2, h3, h4, h5, h6, h7⟩ := (m.fn F (List.mem_of_getElem? e)).ex
      exact ⟨a, _, h1, h2, h5, fnG_of e h3 h4 h6 h7 (mdl_ok m n)⟩⟩
end

/-! ### the law -/
theorem frz_of {K : PySem.W.Frag} {H : Hp} {a : Addr} {vs : List V} (o : Only H) (h : SqL K H a vs) : FrzL K H a vs := by
  rcases h with (h | ⟨q, h⟩) | h
  · rcases o a with e | ⟨_, _, e⟩ <;> (rw [e] at h; cases h)
  · exact .inl ⟨q, h⟩
  · exact .inr h
theorem law_sp {G : Mdl} {n f : Nat} {F : Fn} {K : PySem.W.Frag} {H : Hp} {a : Addr} {ns : List Int} {M' : Mem} {E : XK} (hF : G.fns[f]? = some F) (h : callF G n f [.frl (ns.map .int)] [] = .ok (.bl true, M')) (k : FrzL K H a (ns.map V.int)) :
    spG K G n f [.ref a] H (fun v _ => v = .bl true) E :=
  ⟨[], [], [.frl (ns.map .int)], ⟨rfl, List.nodup_nil, fun _ _ e => by simp at e⟩, .cons (.frl k (Reps.of_ints ns)) .nil, fun F hF => callF_len h F hF, _, M', h, fun js' H' b x T r => by cases r; rfl⟩
/-- the call, from a heap of which the script alone is told -/
theorem law_one {P : Program} {w : World} {K : PySem.W.Frag} {mg mb : Str → Option Value} {k : Nat} {fa a : Addr} {x : Str} {sp : Sp} {s : Shared} {vs : List Value} {H : Hp} (kin : K.In s.heap) (hg : s.heap.Ns mainGlobals mg) (hb : s.heap.Ns builtinsNs mb)
    (hbb : ∀ x : Str, x ≠ "__name__" → mb x = bootBuiltins x) (lim : s.heap.NoLimit) (gens : s.gens = #[]) (ha : s.heap.get? a = some { cls := .type "list", data := .seq vs.toArray }) (room : Room k callerA)
    (F : ∀ base : Heap, ∃ fd : FuncData, FnG P w K mg base k fa fd [x] sp ∧ BindsTo s fd ⟨[.ref a], []⟩ [(x, .ref a)]) (hok : HOk P w H s.heap)
    (only : ∀ b u, H b = some u → b = a ∧ K.lookup a = none ∧ ∃ o ys, u = .frz o (.lst ys)) (hsp : sp [.ref a] H (fun v _ => v = .bl true) E0) :
    codeAny (model P w) callerA (.call (.ref fa) ⟨[.ref a], []⟩) (fun r s' => r = .ok (.ret (.bool true)) ∧ OldK s.heap s'.heap ∧ s'.os = s.os ∧ PyProof.Rows.AllBare s'.gens) s := by
  have clear : ∀ {b : Addr} {o : Obj} {es : Array DictEntry} {ep : Nat}, s.heap.get? b = some o → o.data = .dict es ep → H b = none := fun {b o es ep} e d => by
    cases q : H b with
    | none => rfl
    | some u =>
      obtain ⟨rfl, _⟩ := only b u q
      cases Option.some.inj (ha.symm.trans e)
      cases d
  have clearK : ∀ {b : Addr} {o : Obj}, K.lookup b = some o → H b = none := fun {b o} e => by
    cases q : H b with
    | none => rfl
    | some u =>
      obtain ⟨rfl, z, _⟩ := only b u q
      cases z.symm.trans e
  have names : ∀ {b : Addr} {m : Str → Option Value}, s.heap.Ns b m → (hidT s.heap H).Ns b m := fun {b m} ⟨o, es, ep, e, d, r⟩ => ⟨o, es, ep, hidT_get e (clear e d), d, r⟩
  have mod : Mod K mg (hidT s.heap H) :=
    { kin := fun b o e => hidT_get (kin b o e) (clearK e), glob := names hg, blt := ⟨mb, names hb, hbb⟩, nolimit := lim.imp fun mc q => ⟨names q.1, q.2⟩ }
  have en : Env0 P w K mg (hidT s.heap H) callerA [] s H :=
    { frames := rfl, mod := mod, bs := fun b o => of_hidT, bsz := Nat.le_of_eq (hidT_size _ _), funs := trivial, frf := fun b z => (nomatch (show b ∈ ([] : List Addr) from z)), hok := hok, bare := .of_eq gens }
  obtain ⟨fd, Fn', bnd⟩ := F (hidT s.heap H)
  refine codeAny_mono (Fn'.run callerA [] s H ⟨[.ref a], []⟩ [.ref a] [.ref a] (fun v _ => v = .bl true) E0 rfl room en bnd (.cons rfl .nil) hsp) ?_
  rintro (e | fl) s' h
  · exact h.elim
  cases fl with
  | ret u =>
    obtain ⟨v, H', os, bare, un, hok', r', q⟩ := h
    subst q
    cases r'
    refine ⟨rfl, OldK.of_keep fun b o e => ?_, os, bare⟩
    cases q : H b with
    | none => exact un.keep b o e q (fun z => nomatch (show b ∈ ([] : List Addr) from z)) (fun z => nomatch z)
    | some u =>
      obtain ⟨_, _, ob, ys, rfl⟩ := only b u q
      have e1 := (hok b _ q).1
      rw [e] at e1
      cases e1
      exact (hok' b _ (un.frzs b _ _ q)).1
  | _ => exact h.elim
/-- the law's head from the compact run -/
theorem law_all {P : Program} {w : World} {K : PySem.W.Frag} {mg mb : Str → Option Value} {k f : Nat} {fa a : Addr} {x : Str} {s : Shared} {vs : List Value} {ns : List Int} {G : Mdl} {D : Fn} {M' : Mem} (kin : K.In s.heap) (hg : s.heap.Ns mainGlobals mg) (hb : s.heap.Ns builtinsNs mb)
    (hbb : ∀ x : Str, x ≠ "__name__" → mb x = bootBuiltins x) (lim : s.heap.NoLimit) (gens : s.gens = #[]) (ha : s.heap.get? a = some { cls := .type "list", data := .seq vs.toArray }) (hi : PyProof.Rows.IntsAre vs ns) (hl : ns.length ≤ sizeLine) (room : Room k callerA)
    (F : ∀ base : Heap, ∃ fd : FuncData, FnG P w K mg base k fa fd [x] (spG K G k f) ∧ BindsTo s fd ⟨[.ref a], []⟩ [(x, .ref a)]) (hF : G.fns[f]? = some D) (hrun : callF G k f [.frl (ns.map .int)] [] = .ok (.bl true, M')) :
    codeAny (model P w) callerA (.call (.ref fa) ⟨[.ref a], []⟩) (fun r s' => r = .ok (.ret (.bool true)) ∧ OldK s.heap s'.heap ∧ s'.os = s.os ∧ PyProof.Rows.AllBare s'.gens) s := by
  have rv := vals_ints hi
  cases hk : K.lookup a with
  | some o =>
    have e := kin a o hk
    rw [ha] at e
    cases e
    refine law_one (H := fun _ => none) kin hg hb hbb lim gens ha room F (fun b u e => by cases e) (fun b u e => by cases e) (law_sp hF hrun (.inr ⟨_, vs.toArray, _, hk, rfl, rfl, rfl, ?_, rv⟩))
    rw [List.size_toArray, hi.length]; exact hl
  | none =>
    have h1 : ∀ {b : Addr} {u : HO}, (if b = a then some (HO.frz { cls := .type "list", data := .seq vs.toArray } (.lst (ns.map V.int))) else none) = some u → b = a ∧ u = HO.frz { cls := .type "list", data := .seq vs.toArray } (.lst (ns.map V.int)) := fun {b u} e => by
      split at e
      · rename_i hb; cases e; exact ⟨hb, rfl⟩
      · cases e
    refine law_one (H := fun b => if b = a then some (HO.frz { cls := .type "list", data := .seq vs.toArray } (.lst (ns.map V.int))) else none) kin hg hb hbb lim gens ha room F (fun b u e => ?_) (fun b u e => ?_) (law_sp hF hrun (.inl ⟨_, if_pos rfl⟩))
    · obtain ⟨rfl, rfl⟩ := h1 e
      exact ⟨ha, (by rw [List.length_map]; exact hl), vs, _, rv, ha⟩
    · obtain ⟨rfl, rfl⟩ := h1 e
      exact ⟨rfl, hk, _, _, rfl⟩
/-- the end: the module's defs, the compact run's answer -/
theorem law_walk {l : PySem.W.OpenLaw} {q : Program} {loose : List Str} {XP : (Str → Option Value) → Heap → Prop} {YP : World → Heap → Prop} {d : DefRec} {K : Params → PySem.W.Frag} {G : Mdl} {D : Fn} {k f : Nat} {x : Str} (hn : l.most = some 63) (hdf : d.params.defaults = []) (room : Room k callerA)
    (hD : G.fns[f]? = some D) (hx : D.ps = [x]) (hnm : D.name = d.name) (hY : ∀ (w : World) (h : Heap), YP w h → (K w.params).In h)
    (F : ∀ (w : World) (mg : Str → Option Value) (h : Heap), (K w.params).In h → h.Ns mainGlobals mg → Mod0 G (K w.params) mg)
    (run : ∀ ns : List Int, ns.length ≤ 63 → (∀ z ∈ ns, Builtin.Int.intBits z ≤ 1048576) → ∃ M', callF G k f [.frl (ns.map .int)] [] = .ok (.bl true, M')) :
    PySem.W.WalkO q loose XP YP l.row.toRowW d [] (fun f vs => PySem.call f vs) := by
  refine Att.attach_callB hn hdf fun w s₀ s₁ mg mb fa o pm cd doc a vs ns gr Y ho hd hcd hmg hobj hints hlen hbits hg => ?_
  have kin := hY w _ Y
  have m := F w mg _ kin gr.T.g
  obtain ⟨M', r⟩ := run ns hlen hbits
  have fns : ∀ base : Heap, MdlOk G k l.prog w (K w.params) mg base := fun base => mdl_ok m k
  refine law_all (x := x) (mb := mb) kin gr.T.g gr.T.b gr.T.builtins gr.T.nolimit hg hobj hints (Nat.le_trans hlen (by decide)) room (fun base => ?_) hD r
  obtain ⟨a2, fd2, g1, g2, g3, g4⟩ := (fns base).fn f D hD
  rw [hnm] at g1
  cases g1.symm.trans hmg
  have bnd := g3 s₁ [.ref a] kin (by rw [hx]; rfl)
  rw [hx] at bnd g4
  exact ⟨fd2, g4, bnd⟩
end Cp

/-! Plain: runs that end well, memory that grows, data by weight. -/
namespace Cp
open PySem L2

/-! ### a run that ends well -/
def Run {α : Type} (r : R α) (Q : α → Prop) : Prop := ∃ x, r = .ok x ∧ Q x
section
variable {α β : Type} {Q : α → Prop} {P : β → Prop}
@[simp] theorem run_ok {x : α} : Run (.ok x) Q ↔ Q x := ⟨fun ⟨_, e, h⟩ => by cases e; exact h, fun h => ⟨x, rfl, h⟩⟩
@[simp] theorem run_bad : ¬ Run (.bad : R α) Q := fun ⟨_, e, _⟩ => nomatch e
@[simp] theorem run_bind {r : R α} {k : α → R β} : Run (r.bind k) P ↔ Run r fun x => Run (k x) P := by
  constructor
  · rintro ⟨z, e, h⟩
    obtain ⟨w, e1, e2⟩ := bind_ok e
    exact ⟨w, e1, z, e2, h⟩
  · rintro ⟨w, rfl, z, e2, h⟩
    exact ⟨z, e2, h⟩
@[simp] theorem run_when {c : Prop} [Decidable c] {r : R α} : Run (R.when c r) Q ↔ c ∧ Run r Q := by
  constructor
  · rintro ⟨z, e, h⟩
    obtain ⟨hc, e⟩ := when_ok e
    exact ⟨hc, z, e, h⟩
  · rintro ⟨hc, z, e, h⟩
    exact ⟨z, (R.when_pos hc).trans e, h⟩
@[simp] theorem run_of {o : Option β} {k : β → R α} : Run (R.of o k) Q ↔ ∃ a, o = some a ∧ Run (k a) Q := by
  constructor
  · rintro ⟨z, e, h⟩
    obtain ⟨w, e1, e2⟩ := of_ok e
    exact ⟨w, e1, z, e2, h⟩
  · rintro ⟨a, rfl, z, e, h⟩
    exact ⟨z, e, h⟩
theorem Run.mono {r : R α} {Q' : α → Prop} (h : Run r Q) (w : ∀ x, Q x → Q' x) : Run r Q' := let ⟨x, e, q⟩ := h; ⟨x, e, w x q⟩
theorem Run.of_eq {r : R α} {x : α} (e : r = .ok x) (h : Q x) : Run r Q := ⟨x, e, h⟩
end
/-- one statement, then the rest -/
theorem run_cons {G : Mdl} {cf : Cf} {a : S} {r : Ss} {s : Ev} {M : Mem} {Q : Fl × Ev × Mem → Prop} (h : Run (evS G cf a s M) fun q => match q.1 with
    | .nx => Run (evSs G cf r q.2.1 q.2.2) Q
    | .bk => Q (.bk, q.2.1, q.2.2)
    | .ct => Q (.ct, q.2.1, q.2.2)
    | .rt d => Q (.rt d, q.2.1, q.2.2)) : Run (evSs G cf (.cons a r) s M) Q := by
  show Run ((evS G cf a s M).bind _) Q
  rw [run_bind]
  refine h.mono fun q hq => ?_
  obtain ⟨fl, s', M'⟩ := q
  cases fl with
  | nx => exact hq
  | bk => exact run_ok.mpr hq
  | ct => exact run_ok.mpr hq
  | rt d => exact run_ok.mpr hq
theorem run_fr {G : Mdl} {cf : Cf} {t : Tg} {it : It} {b : Ss} {s : Ev} {M : Mem} {Q : Fl × Ev × Mem → Prop} (h : Run (evI G cf it s M) fun p => Run (forX p.1 (evG G cf t) (fun s M => evSs G cf b s M) wf 0 s p.2) Q) : Run (evS G cf (.fr t it b) s M) Q := by
  show Run ((evI G cf it s M).bind _) Q
  rw [run_bind]
  exact h
section
variable {G : Mdl} {cf : Cf} {t : Tg} {e e2 : E} {b : Ss} {s : Ev} {M : Mem} {Q : Fl × Ev × Mem → Prop}
theorem run_frT (h : Run (ev G cf e s M) fun p => ∃ xs, p.1 = .tup xs ∧ Run (forX (.its xs) (evG G cf t) (fun s M => evSs G cf b s M) wf 0 s p.2) Q) : Run (evS G cf (.fr t (.ex e) b) s M) Q := by
  refine run_fr ?_
  show Run ((ev G cf e s M).bind _) _
  rw [run_bind]
  refine h.mono fun p ⟨xs, e1, k⟩ => ?_
  obtain ⟨d, M'⟩ := p
  have e1 : d = .tup xs := e1
  subst e1
  exact run_ok.mpr k
theorem run_frL (h : Run (ev G cf e s M) fun p => ∃ a xs, p.1 = .ref a ∧ p.2[a]? = some (.lst xs) ∧ Run (forX (.live a) (evG G cf t) (fun s M => evSs G cf b s M) wf 0 s p.2) Q) : Run (evS G cf (.fr t (.ex e) b) s M) Q := by
  refine run_fr ?_
  show Run ((ev G cf e s M).bind _) _
  rw [run_bind]
  refine h.mono fun p ⟨a, xs, e1, e2, k⟩ => ?_
  obtain ⟨d, M'⟩ := p
  have e1 : d = .ref a := e1
  have e2 : M'[a]? = some (.lst xs) := e2
  subst e1
  show Run (match M'[a]? with | some (MO.lst _) => R.ok (Src.live a, M') | _ => R.bad) _
  rw [e2]
  exact run_ok.mpr k
theorem run_frR (h : Run (ev G cf e s M) fun p => ∃ n, p.1 = .int n ∧ rngOk 0 n = true ∧ Run (forX (.its (rngD 0 n)) (evG G cf t) (fun s M => evSs G cf b s M) wf 0 s p.2) Q) : Run (evS G cf (.fr t (.rg1 e) b) s M) Q := by
  refine run_fr ?_
  show Run ((ev G cf e s M).bind _) _
  rw [run_bind]
  refine h.mono fun p ⟨n, e1, e2, k⟩ => ?_
  obtain ⟨d, M'⟩ := p
  have e1 : d = .int n := e1
  subst e1
  exact run_when.mpr ⟨e2, run_ok.mpr k⟩
end
theorem run_nil {G : Mdl} {cf : Cf} {s : Ev} {M : Mem} {Q : Fl × Ev × Mem → Prop} (h : Q (.nx, s, M)) : Run (evSs G cf .nil s M) Q := run_ok.mpr h
theorem run_endF {r : RS} {Q : D × Mem → Prop} (h : Run r fun q => match q.1 with | .rt d => Q (d, q.2.2) | .nx => Q (.non, q.2.2) | _ => False) : Run (endF r) Q := by
  unfold endF
  rw [run_bind]
  refine h.mono fun q hq => ?_
  obtain ⟨fl, s', M'⟩ := q
  cases fl with
  | nx => exact run_ok.mpr hq
  | rt d => exact run_ok.mpr hq
  | bk => exact hq.elim
  | ct => exact hq.elim
theorem run_call {G : Mdl} {n f : Nat} {F : Fn} {M : Mem} {Q : D × Mem → Prop} (k : List D) (hF : G.fns[f]? = some F) (hl : k.length = F.ps.length)
    (h : Run (evSs G (callF G n) F.body (k.map some ++ List.replicate (F.names.length - F.ps.length) none) M) fun q => match q.1 with | .rt d => Q (d, q.2.2) | .nx => Q (.non, q.2.2) | _ => False) : Run (callF G (n + 1) f k M) Q := by
  have e : callF G (n + 1) f k M = R.when (k.length = F.ps.length) (endF (evSs G (callF G n) F.body (k.map some ++ List.replicate (F.names.length - F.ps.length) none) M)) := by
    show (match G.fns[f]? with | some F => R.when (k.length = F.ps.length) (endF (evSs G (callF G n) F.body (k.map some ++ List.replicate (F.names.length - F.ps.length) none) M)) | none => .bad) = _
    rw [hF]
  rw [e, run_when]
  exact ⟨hl, run_endF h⟩

/-! ### loops over told items -/
theorem wf_eq : wf = 1099511627776 := by unfold wf; rfl
/-- a walk over told items: I, by how many are done -/
theorem run_for {xs : List D} {set : D → Ev → Mem → R (Ev × Mem)} {b : Ev → Mem → RS} {Q : Fl × Ev × Mem → Prop} (I : Nat → Ev → Mem → Prop) (hl : xs.length < 2 ^ 30) {s : Ev} {M : Mem} (h0 : I 0 s M)
    (hs : ∀ i x s M, xs[i]? = some x → I i s M → Run (set x s M) fun p => Run (b p.1 p.2) fun q => match q.1 with
      | .nx => I (i + 1) q.2.1 q.2.2
      | .ct => I (i + 1) q.2.1 q.2.2
      | .bk => Q (.nx, q.2.1, q.2.2)
      | .rt d => Q (.rt d, q.2.1, q.2.2))
    (hd : ∀ s M, I xs.length s M → Q (.nx, s, M)) : Run (forX (.its xs) set b wf 0 s M) Q := by
  have key : ∀ (k i : Nat) (s : Ev) (M : Mem), i ≤ xs.length → xs.length - i < k → I i s M → Run (forX (.its xs) set b k i s M) Q := by
    intro k
    induction k with
    | zero => intro i s M _ h _; omega
    | succ k ih =>
      intro i s M hi hk hI
      show Run (R.of (some xs[i]?) _) Q
      rw [run_of]
      refine ⟨_, rfl, ?_⟩
      cases e : xs[i]? with
      | none =>
        have : i = xs.length := by have := List.getElem?_eq_none_iff.mp e; omega
        subst this
        exact run_ok.mpr (hd s M hI)
      | some x =>
        have hlt := (List.getElem?_eq_some_iff.mp e).1
        show Run ((set x s M).bind _) Q
        rw [run_bind]
        refine (hs i x s M e hI).mono fun p hp => ?_
        rw [run_bind]
        refine hp.mono fun q hq => ?_
        obtain ⟨fl, s', M'⟩ := q
        cases fl with
        | nx => exact ih (i + 1) s' M' (by omega) (by omega) hq
        | ct => exact ih (i + 1) s' M' (by omega) (by omega) hq
        | bk => exact run_ok.mpr hq
        | rt d => exact run_ok.mpr hq
  exact key wf 0 s M (Nat.zero_le _) (by rw [wf_eq]; omega) h0
/-- a list walked that stays as it is -/
theorem run_forL {a : Nat} {xs : List D} {set : D → Ev → Mem → R (Ev × Mem)} {b : Ev → Mem → RS} {Q : Fl × Ev × Mem → Prop} (I : Nat → Ev → Mem → Prop) (hl : xs.length < 2 ^ 30) {s : Ev} {M : Mem} (h0 : I 0 s M)
    (hx : ∀ i s M, I i s M → M[a]? = some (.lst xs))
    (hs : ∀ i x s M, xs[i]? = some x → I i s M → Run (set x s M) fun p => Run (b p.1 p.2) fun q => match q.1 with
      | .nx => I (i + 1) q.2.1 q.2.2
      | .ct => I (i + 1) q.2.1 q.2.2
      | .bk => Q (.nx, q.2.1, q.2.2)
      | .rt d => Q (.rt d, q.2.1, q.2.2))
    (hd : ∀ s M, I xs.length s M → Q (.nx, s, M)) : Run (forX (.live a) set b wf 0 s M) Q := by
  have key : ∀ (k i : Nat) (s : Ev) (M : Mem), i ≤ xs.length → xs.length - i < k → I i s M → Run (forX (.live a) set b k i s M) Q := by
    intro k
    induction k with
    | zero => intro i s M _ h _; omega
    | succ k ih =>
      intro i s M hi hk hI
      have ha : Src.at_ (.live a) M i = some xs[i]? := by
        show (match M[a]? with | some (MO.lst xs) => some xs[i]? | _ => none) = _
        rw [hx i s M hI]
      show Run (R.of (Src.at_ (.live a) M i) _) Q
      rw [ha, run_of]
      refine ⟨_, rfl, ?_⟩
      cases e : xs[i]? with
      | none =>
        have : i = xs.length := by have := List.getElem?_eq_none_iff.mp e; omega
        subst this
        exact run_ok.mpr (hd s M hI)
      | some x =>
        have hlt := (List.getElem?_eq_some_iff.mp e).1
        show Run ((set x s M).bind _) Q
        rw [run_bind]
        refine (hs i x s M e hI).mono fun p hp => ?_
        rw [run_bind]
        refine hp.mono fun q hq => ?_
        obtain ⟨fl, s', M'⟩ := q
        cases fl with
        | nx => exact ih (i + 1) s' M' (by omega) (by omega) hq
        | ct => exact ih (i + 1) s' M' (by omega) (by omega) hq
        | bk => exact run_ok.mpr hq
        | rt d => exact run_ok.mpr hq
  exact key wf 0 s M (Nat.zero_le _) (by rw [wf_eq]; omega) h0
/-- a comprehension over told items: I, by how many are done and what is made -/
theorem run_comp {xs : List D} {set : D → Ev → Mem → R (Ev × Mem)} {cond : Ev → Mem → R (Bool × Mem)} {elt : Ev → Mem → RD} {s : Ev} {Q : List D × Mem → Prop} (I : Nat → Mem → List D → Prop) (hl : xs.length < 2 ^ 24) {M : Mem} (h0 : I 0 M [])
    (hs : ∀ i x M acc, xs[i]? = some x → acc.length ≤ i → I i M acc → Run (set x s M) fun p => Run (cond p.1 p.2) fun q => match q.1 with
      | true => Run (elt p.1 q.2) fun r => I (i + 1) r.2 (acc ++ [r.1])
      | false => I (i + 1) q.2 acc)
    (hd : ∀ M acc, acc.length ≤ xs.length → I xs.length M acc → Q (acc, M)) : Run (compX (.its xs) set cond elt s wf 0 M []) Q := by
  have key : ∀ (k i : Nat) (M : Mem) (acc : List D), i ≤ xs.length → xs.length - i < k → acc.length ≤ i → I i M acc → Run (compX (.its xs) set cond elt s k i M acc) Q := by
    intro k
    induction k with
    | zero => intro i M acc _ h; omega
    | succ k ih =>
      intro i M acc hi hk ha hI
      show Run (R.of (some xs[i]?) _) Q
      rw [run_of]
      refine ⟨_, rfl, ?_⟩
      cases e : xs[i]? with
      | none =>
        have : i = xs.length := by have := List.getElem?_eq_none_iff.mp e; omega
        subst this
        exact run_ok.mpr (hd M acc ha hI)
      | some x =>
        have hlt := (List.getElem?_eq_some_iff.mp e).1
        show Run ((turnC set cond elt x s M acc).bind _) Q
        rw [run_bind]
        unfold turnC
        rw [run_bind]
        refine (hs i x M acc e ha hI).mono fun p hp => ?_
        rw [run_bind]
        refine hp.mono fun q hq => ?_
        obtain ⟨b, M'⟩ := q
        cases b with
        | true =>
          show Run ((elt p.1 M').bind _) _
          rw [run_bind]
          refine Run.mono hq fun r hr => ?_
          rw [run_when]
          exact ⟨by rw [sizeLine_eq]; omega, run_ok.mpr (ih (i + 1) _ _ (by omega) (by omega) (by rw [List.length_append, List.length_singleton]; omega) hr)⟩
        | false => exact run_ok.mpr (ih (i + 1) M' acc (by omega) (by omega) (Nat.le_succ_of_le ha) hq)
  exact key wf 0 M [] (Nat.zero_le _) (by rw [wf_eq]; omega) (Nat.le_refl _) h0
/-- .. over a list that stays as it is -/
theorem run_compL {a : Nat} {xs : List D} {set : D → Ev → Mem → R (Ev × Mem)} {cond : Ev → Mem → R (Bool × Mem)} {elt : Ev → Mem → RD} {s : Ev} {Q : List D × Mem → Prop} (I : Nat → Mem → List D → Prop) (hl : xs.length < 2 ^ 24) {M : Mem} (h0 : I 0 M [])
    (hx : ∀ i M acc, I i M acc → M[a]? = some (.lst xs))
    (hs : ∀ i x M acc, xs[i]? = some x → acc.length ≤ i → I i M acc → Run (set x s M) fun p => Run (cond p.1 p.2) fun q => match q.1 with
      | true => Run (elt p.1 q.2) fun r => I (i + 1) r.2 (acc ++ [r.1])
      | false => I (i + 1) q.2 acc)
    (hd : ∀ M acc, acc.length ≤ xs.length → I xs.length M acc → Q (acc, M)) : Run (compX (.live a) set cond elt s wf 0 M []) Q := by
  have key : ∀ (k i : Nat) (M : Mem) (acc : List D), i ≤ xs.length → xs.length - i < k → acc.length ≤ i → I i M acc → Run (compX (.live a) set cond elt s k i M acc) Q := by
    intro k
    induction k with
    | zero => intro i M acc _ h; omega
    | succ k ih =>
      intro i M acc hi hk ha hI
      have hat : Src.at_ (.live a) M i = some xs[i]? := by
        show (match M[a]? with | some (MO.lst xs) => some xs[i]? | _ => none) = _
        rw [hx i M acc hI]
      show Run (R.of (Src.at_ (.live a) M i) _) Q
      rw [hat, run_of]
      refine ⟨_, rfl, ?_⟩
      cases e : xs[i]? with
      | none =>
        have : i = xs.length := by have := List.getElem?_eq_none_iff.mp e; omega
        subst this
        exact run_ok.mpr (hd M acc ha hI)
      | some x =>
        have hlt := (List.getElem?_eq_some_iff.mp e).1
        show Run ((turnC set cond elt x s M acc).bind _) Q
        rw [run_bind]
        unfold turnC
        rw [run_bind]
        refine (hs i x M acc e ha hI).mono fun p hp => ?_
        rw [run_bind]
        refine hp.mono fun q hq => ?_
        obtain ⟨b, M'⟩ := q
        cases b with
        | true =>
          show Run ((elt p.1 M').bind _) _
          rw [run_bind]
          refine Run.mono hq fun r hr => ?_
          rw [run_when]
          exact ⟨by rw [sizeLine_eq]; omega, run_ok.mpr (ih (i + 1) _ _ (by omega) (by omega) (by rw [List.length_append, List.length_singleton]; omega) hr)⟩
        | false => exact run_ok.mpr (ih (i + 1) M' acc (by omega) (by omega) (Nat.le_succ_of_le ha) hq)
  exact key wf 0 M [] (Nat.zero_le _) (by rw [wf_eq]; omega) (Nat.le_refl _) h0

/-! ### memory that grows, but for one object -/
def Gr (a : Nat) (M M' : Mem) : Prop := ∀ i o, i ≠ a → M[i]? = some o → M'[i]? = some o
theorem Gr.refl {a : Nat} {M : Mem} : Gr a M M := fun _ _ _ h => h
theorem Gr.trans {a : Nat} {M M' M2 : Mem} (h : Gr a M M') (k : Gr a M' M2) : Gr a M M2 := fun i o ne e => k i o ne (h i o ne e)
theorem Gr.set {a : Nat} {M : Mem} {o : MO} : Gr a M (M.set a o) := fun i u ne e => by rw [List.getElem?_set_ne (Ne.symm ne)]; exact e
theorem Gr.new {a : Nat} {M : Mem} {o : MO} : Gr a M (M ++ [o]) := fun i u _ e => by rw [List.getElem?_append_left (List.getElem?_eq_some_iff.mp e).1]; exact e
theorem at_new {M : Mem} {o : MO} : (M ++ [o])[M.length]? = some o := by rw [List.getElem?_append_right (Nat.le_refl _), Nat.sub_self]; rfl
theorem at_set {M : Mem} {a : Nat} {u o : MO} (h : M[a]? = some u) : (M.set a o)[a]? = some o := List.getElem?_set_self (List.getElem?_eq_some_iff.mp h).1
mutual
theorem Py.gr {a : Nat} {M M' : Mem} (h : Gr a M M') (ha : ∀ xs, M[a]? ≠ some (.lst xs)) : ∀ {d : D} {p : PyData}, Py M d p → Py M' d p
  | _, _, .non => .non
  | _, _, .bl b => .bl b
  | _, _, .int i => .int i
  | _, _, .str x => .str x
  | _, _, .tup k => .tup (PyAll.gr h ha k)
  | _, _, .lst e k => .lst (h _ _ (fun z => ha _ (z ▸ e)) e) (PyAll.gr h ha k)
  | _, _, .frl k => .frl (PyAll.gr h ha k)
theorem PyAll.gr {a : Nat} {M M' : Mem} (h : Gr a M M') (ha : ∀ xs, M[a]? ≠ some (.lst xs)) : ∀ {d : List D} {p : List PyData}, PyAll M d p → PyAll M' d p
  | _, _, .nil => .nil
  | _, _, .cons k ks => .cons (Py.gr h ha k) (PyAll.gr h ha ks)
end

/-! ### how long a text is shown -/
mutual
def sw : PyData → Nat
  | .none => 4
  | .bool _ => 5
  | .int i => i.natAbs.log2 + 2
  | .str x => 10 * x.length + 2
  | .list xs => swAll xs + 2
  | .tuple xs => swAll xs + 3
  | .dict _ => 0
def swAll : List PyData → Nat
  | [] => 0
  | x :: xs => sw x + 2 + swAll xs
end
theorem textFrom_le : ∀ (ts : List Str) (k : Nat) (acc : Str), (textFrom k acc ts).length ≤ acc.length + (ts.map fun t => t.length + 2).sum
  | [], k, acc => by show acc.length ≤ _; omega
  | t :: ts, k, acc => by
    have ih := textFrom_le ts (k + 1) (acc ++ (if k > 0 then ", " else "" : String) ++ t)
    show (textFrom (k + 1) (acc ++ (if k > 0 then ", " else "" : String) ++ t) ts).length ≤ _
    rw [Str.length_append, Str.length_append] at ih
    have : ((if k > 0 then ", " else "" : String) : Str).length ≤ 2 := by split <;> decide
    rw [List.map_cons, List.sum_cons]
    omega
theorem join2_le : ∀ (ts : List Str), (Str.join ", " ts).length ≤ (ts.map fun t => t.length + 2).sum
  | [] => by show (0 : Nat) ≤ _; omega
  | [x] => by show x.length ≤ _; rw [List.map_cons, List.sum_cons]; omega
  | x :: y :: r => by
    have ih := join2_le (y :: r)
    show (x ++ ", " ++ Str.join ", " (y :: r)).length ≤ _
    rw [Str.length_append, Str.length_append, List.map_cons, List.sum_cons]
    have : ((", " : String) : Str).length = 2 := rfl
    omega
mutual
theorem shown_le : ∀ {p : PyData}, p.showable = true → p.canLay0 = true → p.shown.length ≤ sw p
  | .none, _, _ => by show (("None" : String) : Str).length ≤ 4; decide
  | .bool b, _, _ => by show ((if b then "True" else "False" : Str)).length ≤ 5; cases b <;> decide
  | .int i, h, _ => by
    have := int_text_length_le (a := i) (k := i.natAbs.log2 + 1) (by omega) (by omega)
    show (Str.ofString (toString i)).length ≤ i.natAbs.log2 + 2
    rw [Str.ofString_eq_toList]
    show (List.toArray _).size ≤ _
    rw [List.size_toArray, List.length_map]
    exact this
  | .str x, _, h => by
    have h : PyData.strOk x = true := h
    refine StrLaws.reprText_len x fun c hc => ?_
    have : c < 0x110000 := by
      unfold PyData.strOk at h
      rw [Array.all_eq_true'] at h
      simpa using h c (by simpa using hc)
    omega
  | .list xs, h, k => by
    have ih := shownAll_le (p := xs) h k
    show (textFrom 0 "[" (PyData.shownAll xs) ++ "]").length ≤ swAll xs + 2
    rw [Str.length_append]
    have h1 := textFrom_le (PyData.shownAll xs) 0 "["
    have e1 : (("[" : String) : Str).length = 1 := rfl
    have e2 : (("]" : String) : Str).length = 1 := rfl
    omega
  | .tuple xs, h, k => by
    have ih := shownAll_le (p := xs) h k
    show (tupleText (PyData.shownAll xs)).length ≤ swAll xs + 3
    unfold tupleText
    rw [Str.length_append, Str.length_append]
    have h1 := join2_le (PyData.shownAll xs)
    have e1 : (("(" : String) : Str).length = 1 := rfl
    have e3 : (((if (PyData.shownAll xs).length == 1 then ",)" else ")" : String) : Str)).length ≤ 2 := by split <;> decide
    omega
  | .dict _, _, k => absurd (show false = true from k) Bool.false_ne_true
theorem shownAll_le : ∀ {p : List PyData}, PyData.showableAll p = true → PyData.canLayAll0 p = true → ((PyData.shownAll p).map fun t => t.length + 2).sum ≤ swAll p
  | [], _, _ => Nat.le_refl _
  | x :: xs, h, k => by
    have h : (x.showable && PyData.showableAll xs) = true := h
    have k : (x.canLay0 && PyData.canLayAll0 xs) = true := k
    rw [Bool.and_eq_true] at h k
    have h1 := shown_le h.1 k.1
    have h2 := shownAll_le h.2 k.2
    show (((x.shown :: PyData.shownAll xs).map fun t => t.length + 2)).sum ≤ sw x + 2 + swAll xs
    rw [List.map_cons, List.sum_cons]
    omega
end
/-! ### ints below a bound of bits -/
mutual
def low (k : Nat) : PyData → Bool
  | .int i => decide (i.natAbs.log2 < k)
  | .list xs => lowAll k xs
  | .tuple xs => lowAll k xs
  | .dict _ => false
  | _ => true
def lowAll (k : Nat) : List PyData → Bool
  | [] => true
  | x :: xs => low k x && lowAll k xs
end
mutual
theorem low_show {k : Nat} (hk : k ≤ 1920) : ∀ {p : PyData}, low k p = true → p.showable = true
  | .none, _ => rfl
  | .bool _, _ => rfl
  | .str _, _ => rfl
  | .int i, h => by
    have h : decide (i.natAbs.log2 < k) = true := h
    exact decide_eq_true (Nat.lt_of_lt_of_le (of_decide_eq_true h) hk)
  | .list xs, h => lowAll_show hk (p := xs) h
  | .tuple xs, h => lowAll_show hk (p := xs) h
  | .dict _, h => absurd h Bool.false_ne_true
theorem lowAll_show {k : Nat} (hk : k ≤ 1920) : ∀ {p : List PyData}, lowAll k p = true → PyData.showableAll p = true
  | [], _ => rfl
  | x :: xs, h => by
    have h : (low k x && lowAll k xs) = true := h
    rw [Bool.and_eq_true] at h
    show (x.showable && PyData.showableAll xs) = true
    rw [low_show hk h.1, lowAll_show hk h.2]; rfl
end
mutual
theorem low_mono {k k' : Nat} (hk : k ≤ k') : ∀ {p : PyData}, low k p = true → low k' p = true
  | .none, _ => rfl
  | .bool _, _ => rfl
  | .str _, _ => rfl
  | .int i, h => by
    have h : decide (i.natAbs.log2 < k) = true := h
    exact decide_eq_true (Nat.lt_of_lt_of_le (of_decide_eq_true h) hk)
  | .list xs, h => lowAll_mono hk (p := xs) h
  | .tuple xs, h => lowAll_mono hk (p := xs) h
  | .dict _, h => absurd h Bool.false_ne_true
theorem lowAll_mono {k k' : Nat} (hk : k ≤ k') : ∀ {p : List PyData}, lowAll k p = true → lowAll k' p = true
  | [], _ => rfl
  | x :: xs, h => by
    have h : (low k x && lowAll k xs) = true := h
    rw [Bool.and_eq_true] at h
    show (low k' x && lowAll k' xs) = true
    rw [low_mono hk h.1, lowAll_mono hk h.2]; rfl
end
end Cp

/-! Plain: data with a weight; steps by simp. -/
namespace Cp
open PySem L2

/-! ### data -/
def Dat (M : Mem) (d : D) (c h k : Nat) : Prop := ∃ p, Py M d p ∧ low k p = true ∧ p.canLay0 = true ∧ p.depth ≤ h ∧ sw p ≤ c
def DatL (M : Mem) (xs : List D) (c h k : Nat) : Prop := ∃ ps, PyAll M xs ps ∧ lowAll k ps = true ∧ PyData.canLayAll0 ps = true ∧ PyData.depthAll ps ≤ h ∧ swAll ps ≤ c
section
variable {M M' : Mem} {d : D} {xs ys : List D} {c c' h h' lb : Nat}
theorem Dat.mono (k : Dat M d c h lb) (e : c ≤ c') (f : h ≤ h') : Dat M d c' h' lb := let ⟨p, h1, h2, h3, h4, h5⟩ := k; ⟨p, h1, h2, h3, Nat.le_trans h4 f, Nat.le_trans h5 e⟩
theorem DatL.mono (k : DatL M xs c h lb) (e : c ≤ c') (f : h ≤ h') : DatL M xs c' h' lb := let ⟨p, h1, h2, h3, h4, h5⟩ := k; ⟨p, h1, h2, h3, Nat.le_trans h4 f, Nat.le_trans h5 e⟩
theorem Dat.gr {a : Nat} (k : Dat M d c h lb) (g : Gr a M M') (ha : ∀ xs, M[a]? ≠ some (.lst xs)) : Dat M' d c h lb := let ⟨p, h1, h2⟩ := k; ⟨p, h1.gr g ha, h2⟩
theorem DatL.gr {a : Nat} (k : DatL M xs c h lb) (g : Gr a M M') (ha : ∀ xs, M[a]? ≠ some (.lst xs)) : DatL M' xs c h lb := let ⟨p, h1, h2⟩ := k; ⟨p, h1.gr g ha, h2⟩
theorem Dat.non : Dat M .non 4 0 lb := ⟨.none, .non, rfl, rfl, Nat.le_refl _, Nat.le_refl _⟩
theorem Dat.bl (b : Bool) : Dat M (.bl b) 5 0 lb := ⟨.bool b, .bl b, rfl, rfl, Nat.le_refl _, Nat.le_refl _⟩
theorem Dat.int {i : Int} (w : i.natAbs.log2 < lb) : Dat M (.int i) (i.natAbs.log2 + 2) 0 lb := ⟨.int i, .int i, decide_eq_true w, rfl, Nat.le_refl _, Nat.le_refl _⟩
theorem Dat.int' {i : Int} {k : Nat} (w : i.natAbs.log2 < k) (hk : k ≤ lb) : Dat M (.int i) (k + 1) 0 lb := (Dat.int (by omega)).mono (by omega) (Nat.le_refl _)
theorem Dat.str {x : Str} (w : PyData.strOk x = true) : Dat M (.str x) (10 * x.length + 2) 0 lb := ⟨.str x, .str x, rfl, w, Nat.le_refl _, Nat.le_refl _⟩
theorem Dat.tup (k : DatL M xs c h lb) : Dat M (.tup xs) (c + 3) (h + 1) lb := let ⟨p, h1, h2, h3, h4, h5⟩ := k; ⟨.tuple p, .tup h1, h2, h3, Nat.succ_le_succ h4, Nat.add_le_add_right h5 3⟩
theorem Dat.lst {a : Nat} (e : M[a]? = some (.lst xs)) (k : DatL M xs c h lb) : Dat M (.ref a) (c + 2) (h + 1) lb := let ⟨p, h1, h2, h3, h4, h5⟩ := k; ⟨.list p, .lst e h1, h2, h3, Nat.succ_le_succ h4, Nat.add_le_add_right h5 2⟩
theorem DatL.nil : DatL M [] 0 0 lb := ⟨[], .nil, rfl, rfl, Nat.le_refl _, Nat.le_refl _⟩
theorem DatL.cons (k : Dat M d c h lb) (l : DatL M xs c' h' lb) : DatL M (d :: xs) (c + 2 + c') (max h h') lb := by
  obtain ⟨p, h1, h2, h3, h4, h5⟩ := k
  obtain ⟨q, k1, k2, k3, k4, k5⟩ := l
  exact ⟨p :: q, .cons h1 k1, by show (_ && _) = true; rw [h2, k2]; rfl, by show (_ && _) = true; rw [h3, k3]; rfl, by show max _ _ ≤ _; omega, by show sw p + 2 + swAll q ≤ _; omega⟩
theorem showAll_app {lb : Nat} : ∀ {p q : List PyData}, lowAll lb (p ++ q) = (lowAll lb p && lowAll lb q)
  | [], q => rfl
  | x :: p, q => by show (_ && lowAll lb (p ++ q)) = ((_ && lowAll lb p) && _); rw [showAll_app, Bool.and_assoc]
theorem layAll_app : ∀ {p q : List PyData}, PyData.canLayAll0 (p ++ q) = (PyData.canLayAll0 p && PyData.canLayAll0 q)
  | [], q => rfl
  | x :: p, q => by show (_ && PyData.canLayAll0 (p ++ q)) = ((_ && PyData.canLayAll0 p) && _); rw [layAll_app, Bool.and_assoc]
theorem depthAll_app : ∀ {p q : List PyData}, PyData.depthAll (p ++ q) = max (PyData.depthAll p) (PyData.depthAll q)
  | [], q => by show PyData.depthAll q = max 0 (PyData.depthAll q); omega
  | x :: p, q => by show max _ (PyData.depthAll (p ++ q)) = max (max _ (PyData.depthAll p)) _; rw [depthAll_app]; omega
theorem swAll_app : ∀ {p q : List PyData}, swAll (p ++ q) = swAll p + swAll q
  | [], q => by show swAll q = 0 + swAll q; omega
  | x :: p, q => by show _ + swAll (p ++ q) = (_ + swAll p) + _; rw [swAll_app]; omega
theorem DatL.append (k : DatL M xs c h lb) (l : DatL M ys c' h' lb) : DatL M (xs ++ ys) (c + c') (max h h') lb := by
  obtain ⟨p, h1, h2, h3, h4, h5⟩ := k
  obtain ⟨q, k1, k2, k3, k4, k5⟩ := l
  exact ⟨p ++ q, h1.append k1, by rw [showAll_app, h2, k2]; rfl, by rw [layAll_app, h3, k3]; rfl, by rw [depthAll_app]; omega, by rw [swAll_app]; omega⟩
theorem DatL.split : ∀ {xs ys : List D} {c : Nat}, DatL M (xs ++ ys) c h lb → ∃ c1 c2, DatL M xs c1 h lb ∧ DatL M ys c2 h lb ∧ c1 + c2 ≤ c
  | [], ys, c, k => ⟨0, c, DatL.nil.mono (Nat.le_refl _) (Nat.zero_le _), k, by omega⟩
  | x :: xs, ys, c, ⟨ps, h1, h2, h3, h4, h5⟩ => by
    cases h1 with
    | @cons _ p _ ps g1 g2 =>
      have h2 : (low lb p && lowAll lb ps) = true := h2
      have h3 : (p.canLay0 && PyData.canLayAll0 ps) = true := h3
      have h4 : max p.depth (PyData.depthAll ps) ≤ h := h4
      have h5 : sw p + 2 + swAll ps ≤ c := h5
      rw [Bool.and_eq_true] at h2 h3
      obtain ⟨c1, c2, a1, a2, a3⟩ := DatL.split (xs := xs) (ys := ys) (c := swAll ps) ⟨ps, g2, h2.2, h3.2, by omega, Nat.le_refl _⟩
      exact ⟨sw p + 2 + c1, c2, (DatL.cons ⟨p, g1, h2.1, h3.1, (by omega : p.depth ≤ h), Nat.le_refl _⟩ a1).mono (Nat.le_refl _) (by omega), a2, by omega⟩
theorem DatL.take (k : DatL M xs c h lb) (n : Nat) : DatL M (xs.take n) c h lb := by
  rw [← List.take_append_drop n xs] at k
  obtain ⟨c1, c2, a1, _, a3⟩ := k.split
  exact a1.mono (by omega) (Nat.le_refl _)
theorem DatL.drop (k : DatL M xs c h lb) (n : Nat) : DatL M (xs.drop n) c h lb := by
  rw [← List.take_append_drop n xs] at k
  obtain ⟨c1, c2, _, a1, a3⟩ := k.split
  exact a1.mono (by omega) (Nat.le_refl _)
theorem DatL.cut (k : DatL M xs c h lb) (lo hi : Option Int) : DatL M (cutL xs lo hi) c h lb := (k.drop _).take _
theorem DatL.head (k : DatL M (d :: xs) c h lb) : Dat M d c h lb ∧ DatL M xs c h lb := by
  obtain ⟨ps, h1, h2, h3, h4, h5⟩ := k
  cases h1 with
  | @cons _ p _ ps g1 g2 =>
    have h2 : (low lb p && lowAll lb ps) = true := h2
    have h3 : (p.canLay0 && PyData.canLayAll0 ps) = true := h3
    have h4 : max p.depth (PyData.depthAll ps) ≤ h := h4
    have h5 : sw p + 2 + swAll ps ≤ c := h5
    rw [Bool.and_eq_true] at h2 h3
    exact ⟨⟨p, g1, h2.1, h3.1, by omega, by omega⟩, ps, g2, h2.2, h3.2, by omega, by omega⟩
theorem DatL.get : ∀ {xs : List D} {i : Nat}, DatL M xs c h lb → xs[i]? = some d → Dat M d c h lb
  | [], _, _, e => by simp at e
  | x :: xs, 0, k, e => by simp at e; subst e; exact k.head.1
  | x :: xs, i + 1, k, e => DatL.get (xs := xs) (i := i) k.head.2 (by simpa using e)
theorem DatL.rev : ∀ {xs : List D} {c : Nat}, DatL M xs c h lb → DatL M xs.reverse c h lb
  | [], _, k => k
  | x :: xs, c, ⟨ps, h1, h2, h3, h4, h5⟩ => by
    cases h1 with
    | @cons _ p _ ps g1 g2 =>
      have h2 : (low lb p && lowAll lb ps) = true := h2
      have h3 : (p.canLay0 && PyData.canLayAll0 ps) = true := h3
      have h4 : max p.depth (PyData.depthAll ps) ≤ h := h4
      have h5 : sw p + 2 + swAll ps ≤ c := h5
      rw [Bool.and_eq_true] at h2 h3
      rw [List.reverse_cons]
      have a := DatL.rev (xs := xs) (c := swAll ps) ⟨ps, g2, h2.2, h3.2, by omega, Nat.le_refl _⟩
      exact (a.append (DatL.cons ⟨p, g1, h2.1, h3.1, (by omega : p.depth ≤ h), Nat.le_refl _⟩ DatL.nil)).mono (by omega) (by omega)
theorem atI_mem {α : Type} {xs : List α} {i : Int} (h0 : 0 ≤ i) (h1 : i < xs.length) : ∃ x, atI xs i = some x ∧ xs[i.toNat]? = some x := by
  have hl : i.toNat < xs.length := by omega
  have : atI xs i = xs[i.toNat]? := by
    unfold atI ixN
    rw [if_pos h0, if_pos h1]
    rfl
  exact ⟨xs[i.toNat], by rw [this]; exact List.getElem?_eq_getElem hl, List.getElem?_eq_getElem hl⟩
theorem Dat.ty (k : Dat M d c h lb) : ∃ u, tyD M d = some u := by
  obtain ⟨p, h1, _⟩ := k
  cases h1 with
  | lst e _ => exact ⟨"list", by show (match M[_]? with | some (MO.lst _) => some "list" | some (MO.dct _) => some "dict" | none => none) = _; rw [e]⟩
  | _ => exact ⟨_, rfl⟩
end
/-! ### in -/
theorem inD_tup {M : Mem} {x : D} {xs : List D} (h : (flatD x && xs.all flatD) = true) : inD M x (.tup xs) = some (inF x xs) := by
  unfold inD
  exact if_pos h
theorem inD_lst {M : Mem} {x : D} {i : Nat} {xs : List D} (e : M[i]? = some (.lst xs)) (h : (flatD x && xs.all flatD) = true) : inD M x (.ref i) = some (inF x xs) := by
  unfold inD
  simp only [e]
  exact if_pos h
theorem inD_tupD {M : Mem} {x : D} {xs : List D} {p : PyData} {ps : List PyData} (h : (flatD x && xs.all flatD) = false) (h1 : Py M x p) (h2 : PyAll M xs ps) (s1 : SeqAt.shaped p = true) (s2 : SeqAt.shaped (.tuple ps) = true) : inD M x (.tup xs) = some (ps.any fun z => PyData.eqv z p) := by
  unfold inD
  refine (if_neg (by rw [h]; exact Bool.false_ne_true)).trans ?_
  rw [tree_of h1, tree_of (Py.tup h2)]
  exact if_pos (by rw [s1, s2]; rfl)
theorem sorted_ok {M : Mem} {i : Nat} {xs : List D} {ns : List Int} (e : M[i]? = some (.lst xs)) (h : intsD xs = some ns) (hl : ns.length < 64) : biD M .sorted [.ref i] = newM M (.lst ((sortI ns).map .int)) := by
  show R.of (listD M (.ref i)) _ = _
  have : listD M (.ref i) = some xs := by
    show (match M[i]? with | some (MO.lst xs) => some xs | _ => none) = _
    rw [e]
  rw [this]
  show R.of (intsD xs) _ = _
  rw [h]
  exact R.when_pos hl
/-! ### repr, == -/
theorem run_repr {M : Mem} {d : D} {c h lb : Nat} {Q : D × Mem → Prop} (k : Dat M d c h lb) (hc : c ≤ 16777216) (hh : h ≤ 64) (hl : lb ≤ 1920) (w : ∀ p, Py M d p → Q (.str p.shown, M)) : Run (biD M .repr [d]) Q := by
  obtain ⟨p, h1, h2, h3, h4, h5⟩ := k
  show Run (R.of (tree M d) _) Q
  rw [run_of]
  refine ⟨p, tree_of h1, ?_⟩
  rw [run_when]
  have h2 := low_show hl h2
  have := shown_le h2 h3
  exact ⟨⟨h2, by omega, by rw [sizeLine_eq]; omega⟩, run_ok.mpr (w p h1)⟩
theorem shaped_str {x : Str} (h : PyData.strOk x = true) : SeqAt.shaped (.str x) = true := by
  unfold SeqAt.shaped
  rw [Bool.and_eq_true]
  exact ⟨h, decide_eq_true (Nat.zero_le _)⟩
/-! ### comprehensions that change nothing -/
theorem fm_take {α β : Type} {f : α → Option β} {xs : List α} {i : Nat} {x : α} (e : xs[i]? = some x) : (xs.take (i + 1)).filterMap f = (xs.take i).filterMap f ++ (f x).toList := by
  rw [List.take_add_one, e, List.filterMap_append]
  cases q : f x with
  | none => simp [q]
  | some y => simp [q]
theorem run_compP {xs : List D} {set : D → Ev → Mem → R (Ev × Mem)} {cond : Ev → Mem → R (Bool × Mem)} {elt : Ev → Mem → RD} {s : Ev} {M : Mem} {Q : List D × Mem → Prop} (f : D → Option D) (hl : xs.length < 2 ^ 24)
    (hs : ∀ x ∈ xs, Run (set x s M) fun p => Run (cond p.1 p.2) fun q => q.2 = M ∧ match q.1 with
      | true => Run (elt p.1 M) fun r => r.2 = M ∧ f x = some r.1
      | false => f x = none)
    (h : Q (xs.filterMap f, M)) : Run (compX (.its xs) set cond elt s wf 0 M []) Q := by
  refine run_comp (fun i M' acc => M' = M ∧ acc = (xs.take i).filterMap f) hl ⟨rfl, rfl⟩ (fun i x M' acc e _ ⟨e1, e2⟩ => ?_) fun M' acc _ ⟨e1, e2⟩ => ?_
  · subst e1
    refine (hs x (List.mem_of_getElem? e)).mono fun p hp => hp.mono fun q ⟨hq, hr⟩ => ?_
    obtain ⟨b, M2⟩ := q
    have hq : M2 = M' := hq
    subst hq
    cases b with
    | true => exact Run.mono hr fun r ⟨r1, r2⟩ => ⟨r1, by rw [fm_take e, r2, e2]; rfl⟩
    | false => exact ⟨rfl, by rw [fm_take e, hr, e2]; exact (List.append_nil _).symm⟩
  · subst e1 e2
    rw [List.take_length]
    exact h
theorem run_compPL {a : Nat} {xs : List D} {set : D → Ev → Mem → R (Ev × Mem)} {cond : Ev → Mem → R (Bool × Mem)} {elt : Ev → Mem → RD} {s : Ev} {M : Mem} {Q : List D × Mem → Prop} (f : D → Option D) (hl : xs.length < 2 ^ 24) (ha : M[a]? = some (.lst xs))
    (hs : ∀ x ∈ xs, Run (set x s M) fun p => Run (cond p.1 p.2) fun q => q.2 = M ∧ match q.1 with
      | true => Run (elt p.1 M) fun r => r.2 = M ∧ f x = some r.1
      | false => f x = none)
    (h : Q (xs.filterMap f, M)) : Run (compX (.live a) set cond elt s wf 0 M []) Q := by
  refine run_compL (xs := xs) (fun i M' acc => M' = M ∧ acc = (xs.take i).filterMap f) hl ⟨rfl, rfl⟩ (fun i M' acc ⟨e, _⟩ => by rw [e]; exact ha) (fun i x M' acc e _ ⟨e1, e2⟩ => ?_) fun M' acc _ ⟨e1, e2⟩ => ?_
  · subst e1
    refine (hs x (List.mem_of_getElem? e)).mono fun p hp => hp.mono fun q ⟨hq, hr⟩ => ?_
    obtain ⟨b, M2⟩ := q
    have hq : M2 = M' := hq
    subst hq
    cases b with
    | true => exact Run.mono hr fun r ⟨r1, r2⟩ => ⟨r1, by rw [fm_take e, r2, e2]; rfl⟩
    | false => exact ⟨rfl, by rw [fm_take e, hr, e2]; exact (List.append_nil _).symm⟩
  · subst e1 e2
    rw [List.take_length]
    exact h
/-- memory that only grows -/
def Gw (M M' : Mem) : Prop := ∀ (i : Nat) (o : MO), M[i]? = some o → M'[i]? = some o
theorem Gw.refl {M : Mem} : Gw M M := fun _ _ h => h
theorem Gw.trans {M M' M2 : Mem} (h : Gw M M') (k : Gw M' M2) : Gw M M2 := fun i o e => k i o (h i o e)
theorem Gw.new {M : Mem} {o : MO} : Gw M (M ++ [o]) := fun i u e => by rw [List.getElem?_append_left (List.getElem?_eq_some_iff.mp e).1]; exact e
theorem Gw.gr {a : Nat} {M M' : Mem} (h : Gw M M') : Gr a M M' := fun i o _ e => h i o e
theorem boolsD_map (bs : List Bool) : boolsD (bs.map D.bl) = some bs := by
  induction bs with
  | nil => rfl
  | cons b bs ih => show (boolsD (bs.map D.bl)).map _ = _; rw [ih]; rfl
theorem Dat.gw {M M' : Mem} {d : D} {c h lb : Nat} (k : Dat M d c h lb) (g : Gw M M') : Dat M' d c h lb := by
  obtain ⟨p, h1, h2⟩ := k
  refine ⟨p, ?_, h2⟩
  -- an index that stands for nothing
  exact h1.gr (a := M.length) g.gr fun xs e => by
    have := (List.getElem?_eq_some_iff.mp e).1
    omega
theorem DatL.gw {M M' : Mem} {d : List D} {c h lb : Nat} (k : DatL M d c h lb) (g : Gw M M') : DatL M' d c h lb := by
  obtain ⟨p, h1, h2⟩ := k
  exact ⟨p, h1.gr (a := M.length) g.gr fun xs e => by
    have := (List.getElem?_eq_some_iff.mp e).1
    omega, h2⟩
theorem Dat.strOk {M : Mem} {x : Str} {c h lb : Nat} (k : Dat M (.str x) c h lb) : PyData.strOk x = true ∧ 10 * x.length + 2 ≤ c := by
  obtain ⟨p, h1, h2, h3, h4, h5⟩ := k
  cases h1
  exact ⟨h3, h5⟩
theorem Dat.tupL {M : Mem} {xs : List D} {c h lb : Nat} (k : Dat M (.tup xs) c h lb) : DatL M xs c h lb := by
  obtain ⟨p, h1, h2, h3, h4, h5⟩ := k
  cases h1 with
  | @tup _ ps k =>
    have h4 : PyData.depthAll ps + 1 ≤ h := h4
    have h5 : swAll ps + 3 ≤ c := h5
    exact ⟨ps, k, h2, h3, by omega, by omega⟩
theorem DatL.len {M : Mem} : ∀ {xs : List D} {c h lb : Nat}, DatL M xs c h lb → 2 * xs.length ≤ c
  | [], _, _, _, _ => Nat.zero_le _
  | x :: xs, c, h, lb, ⟨ps, h1, h2, h3, h4, h5⟩ => by
    cases h1 with
    | @cons _ p _ ps g1 g2 =>
      have h2 : (low lb p && lowAll lb ps) = true := h2
      have h3 : (p.canLay0 && PyData.canLayAll0 ps) = true := h3
      have h4 : max p.depth (PyData.depthAll ps) ≤ h := h4
      have h5 : sw p + 2 + swAll ps ≤ c := h5
      rw [Bool.and_eq_true] at h2 h3
      have := DatL.len (xs := xs) (c := swAll ps) (h := h) ⟨ps, g2, h2.2, h3.2, by omega, Nat.le_refl _⟩
      rw [List.length_cons]; omega
theorem DatL.all {M : Mem} {c h lb : Nat} : ∀ {xs : List D}, (∀ x ∈ xs, Dat M x c h lb) → DatL M xs ((c + 2) * xs.length) h lb
  | [], _ => DatL.nil.mono (Nat.zero_le _) (Nat.zero_le _)
  | x :: xs, w => by
    refine (DatL.cons (w x List.mem_cons_self) (DatL.all fun y hy => w y (List.mem_cons_of_mem _ hy))).mono ?_ (by omega)
    rw [List.length_cons, Nat.mul_succ]; omega
theorem DatL.mem {M : Mem} {c h lb : Nat} {xs : List D} (k : DatL M xs c h lb) : ∀ x ∈ xs, Dat M x c h lb := fun x hx => by
  obtain ⟨i, hi⟩ := List.getElem?_of_mem hx
  exact k.get hi
theorem shaped_of {p : PyData} (h : p.canLay0 = true) (k : p.depth ≤ 64) : SeqAt.shaped p = true := by
  unfold SeqAt.shaped
  rw [Bool.and_eq_true]
  exact ⟨h, decide_eq_true k⟩
theorem eq_nilT {M : Mem} {xs : List D} {c h lb : Nat} (k : DatL M xs c h lb) (hh : h < 64) : eqD M (.tup xs) (.tup []) = some xs.isEmpty := by
  obtain ⟨ps, h1, h2, h3, h4, h5⟩ := k
  rw [eqD_of (.tup h1) (.tup .nil) (shaped_of h3 (by show PyData.depthAll ps + 1 ≤ 64; omega)) (shaped_of rfl (by decide))]
  cases h1 with
  | nil => rfl
  | cons _ _ => rfl
theorem eq_nilL {M : Mem} {a b : Nat} {xs : List D} {c h lb : Nat} (ha : M[a]? = some (.lst xs)) (hb : M[b]? = some (.lst [])) (k : DatL M xs c h lb) (hh : h < 64) : eqD M (.ref a) (.ref b) = some xs.isEmpty := by
  obtain ⟨ps, h1, h2, h3, h4, h5⟩ := k
  rw [eqD_of (.lst ha h1) (.lst hb .nil) (shaped_of h3 (by show PyData.depthAll ps + 1 ≤ 64; omega)) (shaped_of rfl (by decide))]
  cases h1 with
  | nil => rfl
  | cons _ _ => rfl
theorem eq_str {M : Mem} {x y : Str} (hx : PyData.strOk x = true) (hy : PyData.strOk y = true) : eqD M (.str x) (.str y) = some (x == y) := by
  rw [eqD_of (.str x) (.str y) (shaped_of hx (Nat.zero_le _)) (shaped_of hy (Nat.zero_le _))]
  rfl
theorem eq_int {M : Mem} {x y : Int} : eqD M (.int x) (.int y) = some (x == y) := by
  rw [eqD_of (.int x) (.int y) (shaped_of rfl (Nat.zero_le _)) (shaped_of rfl (Nat.zero_le _))]
  rfl
theorem eq_bl {M : Mem} {x y : Bool} : eqD M (.bl x) (.bl y) = some (x == y) := by
  rw [eqD_of (.bl x) (.bl y) (shaped_of rfl (Nat.zero_le _)) (shaped_of rfl (Nat.zero_le _))]
  cases x <;> cases y <;> rfl
theorem Dat.low {M : Mem} {d : D} {c h k k' : Nat} (e : Dat M d c h k) (hk : k ≤ k') : Dat M d c h k' := let ⟨p, h1, h2, h3⟩ := e; ⟨p, h1, low_mono hk h2, h3⟩
theorem DatL.low {M : Mem} {d : List D} {c h k k' : Nat} (e : DatL M d c h k) (hk : k ≤ k') : DatL M d c h k' := let ⟨p, h1, h2, h3⟩ := e; ⟨p, h1, lowAll_mono hk h2, h3⟩
theorem Dat.tupL' {M : Mem} {xs : List D} {c h lb : Nat} (k : Dat M (.tup xs) c h lb) : ∃ c' h', DatL M xs c' h' lb ∧ c' + 3 ≤ c ∧ h' + 1 ≤ h := by
  obtain ⟨p, h1, h2, h3, h4, h5⟩ := k
  cases h1 with
  | @tup _ ps k =>
    have h4 : PyData.depthAll ps + 1 ≤ h := h4
    have h5 : swAll ps + 3 ≤ c := h5
    exact ⟨swAll ps, PyData.depthAll ps, ⟨ps, k, h2, h3, Nat.le_refl _, Nat.le_refl _⟩, by omega, by omega⟩
theorem Dat.lo {M : Mem} {i : Int} {c h lb : Nat} (k : Dat M (.int i) c h lb) : i.natAbs.log2 < lb ∧ i.natAbs.log2 + 2 ≤ c := by
  obtain ⟨p, h1, h2, h3, h4, h5⟩ := k
  cases h1
  exact ⟨of_decide_eq_true h2, h5⟩
/-- one item in the place of another -/
theorem DatL.swap {M : Mem} {xs : List D} {c h lb i : Nat} {x : D} (k : DatL M xs c h lb) (e : xs[i]? = some x) : ∃ c1 c2 c3, DatL M (xs.take i) c1 h lb ∧ Dat M x c2 h lb ∧ DatL M (xs.drop (i + 1)) c3 h lb ∧ c1 + (c2 + 2 + c3) ≤ c := by
  have hi := (List.getElem?_eq_some_iff.mp e).1
  have hx : xs = xs.take i ++ x :: xs.drop (i + 1) := by
    have h1 := List.take_append_drop i xs
    rw [List.drop_eq_getElem_cons hi, (List.getElem?_eq_some_iff.mp e).2] at h1
    exact h1.symm
  rw [hx] at k
  obtain ⟨c1, c2, a1, a2, a3⟩ := k.split
  obtain ⟨ps, g1, g2, g3, g4, g5⟩ := a2
  cases g1 with
  | @cons _ p _ ps h1 h2 =>
    have g2 : (Cp.low lb p && lowAll lb ps) = true := g2
    have g3 : (p.canLay0 && PyData.canLayAll0 ps) = true := g3
    have g4 : max p.depth (PyData.depthAll ps) ≤ h := g4
    have g5 : sw p + 2 + swAll ps ≤ c2 := g5
    rw [Bool.and_eq_true] at g2 g3
    exact ⟨c1, sw p, swAll ps, a1, ⟨p, h1, g2.1, g3.1, by omega, Nat.le_refl _⟩, ⟨ps, h2, g2.2, g3.2, by omega, Nat.le_refl _⟩, by omega⟩
/-! ### what lists stay; some objects out of sight -/
def Gl (M M' : Mem) : Prop := ∀ (i : Nat) (xs : List D), M[i]? = some (.lst xs) → M'[i]? = some (.lst xs)
theorem Gl.refl {M : Mem} : Gl M M := fun _ _ h => h
theorem Gl.trans {M M' M2 : Mem} (h : Gl M M') (k : Gl M' M2) : Gl M M2 := fun i o e => k i o (h i o e)
theorem Gw.gl {M M' : Mem} (h : Gw M M') : Gl M M' := fun i xs e => h i _ e
theorem Gr.gl {a : Nat} {M M' : Mem} (h : Gr a M M') (ha : ∀ xs, M[a]? ≠ some (.lst xs)) : Gl M M' := fun i xs e => h i _ (fun z => ha xs (z ▸ e)) e
mutual
theorem Py.gl {M M' : Mem} (h : Gl M M') : ∀ {d : D} {p : PyData}, Py M d p → Py M' d p
  | _, _, .non => .non
  | _, _, .bl b => .bl b
  | _, _, .int i => .int i
  | _, _, .str x => .str x
  | _, _, .tup k => .tup (PyAll.gl h k)
  | _, _, .lst e k => .lst (h _ _ e) (PyAll.gl h k)
  | _, _, .frl k => .frl (PyAll.gl h k)
theorem PyAll.gl {M M' : Mem} (h : Gl M M') : ∀ {d : List D} {p : List PyData}, PyAll M d p → PyAll M' d p
  | _, _, .nil => .nil
  | _, _, .cons k ks => .cons (Py.gl h k) (PyAll.gl h ks)
end
theorem Dat.gl {M M' : Mem} {d : D} {c h lb : Nat} (k : Dat M d c h lb) (g : Gl M M') : Dat M' d c h lb := let ⟨p, h1, h2⟩ := k; ⟨p, h1.gl g, h2⟩
theorem DatL.gl {M M' : Mem} {d : List D} {c h lb : Nat} (k : DatL M d c h lb) (g : Gl M M') : DatL M' d c h lb := let ⟨p, h1, h2⟩ := k; ⟨p, h1.gl g, h2⟩
/-- the objects of S out of sight -/
def vw (S : Nat → Bool) (M : Mem) : Mem := M.mapIdx fun i o => if S i = true then .dct [] else o
theorem vw_get (S : Nat → Bool) (M : Mem) (i : Nat) : (vw S M)[i]? = (M[i]?).map fun o => if S i = true then .dct [] else o := by
  unfold vw
  rw [List.getElem?_mapIdx]
theorem vw_lst {S : Nat → Bool} {M : Mem} {i : Nat} {xs : List D} : (vw S M)[i]? = some (.lst xs) ↔ S i = false ∧ M[i]? = some (.lst xs) := by
  rw [vw_get]
  cases e : M[i]? with
  | none => simp
  | some o => cases hs : S i <;> simp
theorem vw_gl {S : Nat → Bool} {M M' : Mem} (h : ∀ i xs, S i = false → M[i]? = some (.lst xs) → M'[i]? = some (.lst xs)) : Gl (vw S M) (vw S M') := fun i xs e => by
  rw [vw_lst] at e ⊢
  exact ⟨e.1, h i xs e.1 e.2⟩
theorem vw_self {S : Nat → Bool} {M : Mem} : Gl (vw S M) M := fun i xs e => (vw_lst.mp e).2
theorem Gl.vw {S : Nat → Bool} {M M' : Mem} (h : Gl M M') : Gl (vw S M) (vw S M') := vw_gl fun i xs _ e => h i xs e
/-- fewer out of sight -/
theorem vw_less {S S' : Nat → Bool} {M : Mem} (h : ∀ i, S' i = true → S i = true) : Gl (Cp.vw S M) (Cp.vw S' M) := fun i xs e => by
  rw [vw_lst] at e ⊢
  refine ⟨?_, e.2⟩
  cases q : S' i with
  | false => rfl
  | true => rw [h i q] at e; exact absurd e.1 (by decide)
end Cp

namespace Lw
open PySem L2 Cp
/-! ### the text in the compact form -/
def top (i : Nat) : Stmt := PySem.Challenge.pw_cellpacts_k37_weavings.main.body.getD i (.Pass ⟨0, 0, 0, 0⟩)
def f0 : Fn := { name := "is_number", ps := ["thing"], names := ["thing"], body :=
  (.cons (.ret (.bool true (.cons (.isi (.var 0) "int") (.cons (.not (.isi (.var 0) "bool")) .nil)))) .nil) }
def f1_1 : Ss := .cons (.ret (.bool true (.cons (.isi (.var 2) "str") (.cons (.cmp .mem (.var 2) (.glob 0)) .nil)))) .nil
def f1_2 : Ss := .cons (.iff (.bool false (.cons (.not (.val (.call 0 (.cons (.var 1) .nil)))) (.cons (.not (.val (.call 0 (.cons (.var 3) .nil)))) (.cons (.val (.cmp .lt (.bi .min (.cons (.var 1) (.cons (.var 3) .nil))) (.lit (.int 0)))) .nil)))) (.cons (.ret (.lit (.bl false))) .nil) .nil) f1_1
def f1_3 : Ss := .cons (.asg (.tp [1, 2, 3]) (.var 0)) f1_2
def f1 : Fn := { name := "is_row", ps := ["thing"], names := ["thing", "hand", "deed", "cell"], body :=
  (.cons (.iff (.bool false (.cons (.not (.val (.isi (.var 0) "tuple"))) (.cons (.val (.cmp .ne (.bi .len (.cons (.var 0) .nil)) (.lit (.int 3)))) .nil))) (.cons (.ret (.lit (.bl false))) .nil) .nil) f1_3) }
def f2 : Fn := { name := "is_weaving", ps := ["thing"], names := ["thing", "one"], body :=
  (.cons (.ret (.bool true (.cons (.isi (.var 0) "tuple") (.cons (.bi .all (.cons (.lc (.call 1 (.cons (.var 1) .nil)) (.nm 1) (.ex (.var 0)) .nil [1]) .nil)) .nil)))) .nil) }
def f3 : Fn := { name := "hands_of", ps := ["rows"], names := ["rows", "hand", "deed", "cell"], body :=
  (.cons (.ret (.bi .tuple (.cons (.ssc (.var 1) (.tp [1, 2, 3]) (.ex (.var 0)) .nil [1, 2, 3]) .nil))) .nil) }
def f4 : Fn := { name := "touch", ps := ["one", "other"], names := ["one", "other"], body :=
  (.cons (.ret (.bool true (.cons (.cmp .ne (.idx (.var 0) (.lit (.int 0))) (.idx (.var 1) (.lit (.int 0)))) (.cons (.cmp .eq (.idx (.var 0) (.lit (.int 2))) (.idx (.var 1) (.lit (.int 2)))) (.cons (.cmp .mem (.lit (.str "w")) (.tup (.cons (.idx (.var 0) (.lit (.int 1))) (.cons (.idx (.var 1) (.lit (.int 1))) .nil)))) .nil))))) .nil) }
def f5 : Fn := { name := "_law_tape", ps := ["_law_script"], names := ["_law_script"], body :=
  (.cons (.ret (.lst (.cons (.bi .list (.cons (.slc (.var 0) .no (.at (.lit (.int 63)))) .nil)) (.cons (.lit (.int 0)) (.cons (.lit (.int 0)) (.cons (.lit (.int 0)) .nil)))))) .nil) }
def f6_1 : Ss := .cons (.ret (.var 2)) .nil
def f6_2 : Ss := .cons (.asg (.sb (.var 0) (.lit (.int 2))) (.bin .fdiv (.idx (.var 0) (.lit (.int 2))) (.var 1))) f6_1
def f6_3 : Ss := .cons (.ret (.bin .mod (.var 4) (.var 1))) .nil
def f6_4 : Ss := .cons (.ret (.bin .mod (.bin .fdiv (.var 5) (.lit (.int 256))) (.var 1))) .nil
def f6_5 : Ss := .cons (.asg (.nm 5) (.bin .mod (.bin .add (.bin .add (.bin .mul (.var 5) (.var 5)) (.bin .mul (.lit (.int 15803)) (.var 5))) (.lit (.int 1))) (.lit (.int 2147483579)))) f6_4
def f6_6 : Ss := .cons (.asg (.nm 5) (.bin .mod (.bin .add (.bin .add (.bin .mul (.var 5) (.var 5)) (.bin .mul (.lit (.int 24229)) (.idx (.var 0) (.lit (.int 3))))) (.lit (.int 13))) (.lit (.int 2147483587)))) f6_5
def f6_7 : Ss := .cons (.asg (.nm 5) (.bin .mod (.bin .add (.bin .add (.bin .mod (.var 4) (.lit (.int 2147483647))) (.bin .mul (.lit (.int 55399)) (.idx (.var 0) (.lit (.int 3))))) (.lit (.int 37))) (.lit (.int 2147483629)))) f6_6
def f6_8 : Ss := .cons (.iff (.bool true (.cons (.val (.cmp .ge (.var 4) (.bin .pow (.lit (.int 10)) (.lit (.int 18))))) (.cons (.val (.cmp .lt (.var 3) (.bi .len (.cons (.idx (.var 0) (.lit (.int 0))) .nil)))) .nil))) (.cons (.asg (.sb (.var 0) (.lit (.int 2))) (.bin .fdiv (.var 4) (.var 1))) f6_3) .nil) f6_7
def f6_9 : Ss := .cons (.asg (.nm 4) (.ite (.val (.cmp .ne (.idx (.var 0) (.lit (.int 0))) (.lst .nil))) (.idx (.idx (.var 0) (.lit (.int 0))) (.bin .mod (.var 3) (.bi .len (.cons (.idx (.var 0) (.lit (.int 0))) .nil)))) (.lit (.int 61)))) f6_8
def f6_10 : Ss := .cons (.asg (.sb (.var 0) (.lit (.int 1))) (.bin .add (.var 3) (.lit (.int 1)))) f6_9
def f6_11 : Ss := .cons (.asg (.nm 3) (.idx (.var 0) (.lit (.int 1)))) f6_10
def f6_12 : Ss := .cons (.iff (.val (.cmp .gt (.idx (.var 0) (.lit (.int 2))) (.lit (.int 0)))) (.cons (.asg (.nm 2) (.bin .mod (.idx (.var 0) (.lit (.int 2))) (.var 1))) f6_2) .nil) f6_11
def f6 : Fn := { name := "_law_pick", ps := ["_law_tape_here", "_law_many"], names := ["_law_tape_here", "_law_many", "_law_found", "_law_at", "_law_cell", "_law_mixed"], body :=
  (.cons (.asg (.sb (.var 0) (.lit (.int 3))) (.bin .add (.idx (.var 0) (.lit (.int 3))) (.lit (.int 1)))) f6_12) }
def f7_1 : Ss := .cons (.expr (.meth .append (.var 8) (.cons (.tup (.cons (.var 10) (.cons (.var 9) (.cons (.idx (.var 4) (.call 6 (.cons (.var 0) (.cons (.bi .len (.cons (.var 4) .nil)) .nil)))) .nil)))) .nil))) .nil
def f7_2 : Ss := .cons (.asg (.nm 10) (.idx (.var 3) (.call 6 (.cons (.var 0) (.cons (.bi .len (.cons (.var 3) .nil)) .nil))))) f7_1
def f7_3 : Ss := .cons (.ret (.bi .tuple (.cons (.var 8) .nil))) .nil
def f7_4 : Ss := .cons (.fr (.nm 7) (.rg1 (.call 6 (.cons (.var 0) (.cons (.bin .add (.var 2) (.lit (.int 1))) .nil)))) (.cons (.asg (.nm 9) (.ite (.val (.cmp .lt (.call 6 (.cons (.var 0) (.cons (.lit (.int 5)) .nil))) (.var 5))) (.lit (.str "w")) (.lit (.str "r")))) f7_2)) f7_3
def f7_5 : Ss := .cons (.asg (.nm 8) (.lst .nil)) f7_4
def f7_6 : Ss := .cons (.fr (.nm 7) (.rg1 (.bin .add (.lit (.int 1)) (.call 6 (.cons (.var 0) (.cons (.lit (.int 4)) .nil))))) (.cons (.expr (.meth .append (.var 4) (.cons (.meth .pop (.var 6) (.cons (.call 6 (.cons (.var 0) (.cons (.bi .len (.cons (.var 6) .nil)) .nil))) .nil)) .nil))) .nil)) f7_5
def f7_7 : Ss := .cons (.asg (.nm 6) (.lst (.cons (.lit (.int 0)) (.cons (.lit (.int 10)) (.cons (.lit (.int 9)) (.cons (.lit (.int 100)) (.cons (.lit (.int 2)) (.cons (.lit (.int 99)) (.cons (.lit (.int 1)) (.cons (.lit (.int 999)) .nil)))))))))) f7_6
def f7_8 : Ss := .cons (.asg (.nm 5) (.bin .add (.lit (.int 1)) (.call 6 (.cons (.var 0) (.cons (.lit (.int 4)) .nil))))) f7_7
def f7 : Fn := { name := "_law_rows", ps := ["_law_tape_here", "_law_most_hands", "_law_most_rows"], names := ["_law_tape_here", "_law_most_hands", "_law_most_rows", "_law_hands_here", "_law_cells", "_law_rate", "_law_pool", "_law_k", "_law_found", "_law_deed", "_law_hand"], body :=
  (.cons (.par [3, 4] (.cons (.slc (.lst (.cons (.lit (.int 9)) (.cons (.lit (.int 10)) (.cons (.lit (.int 0)) (.cons (.lit (.int 100)) (.cons (.lit (.int 99)) (.cons (.lit (.int 999)) .nil))))))) .no (.at (.bin .add (.lit (.int 1)) (.call 6 (.cons (.var 0) (.cons (.var 1) .nil)))))) (.cons (.lst .nil) .nil))) f7_8) }
def f8_1 : Ss := .cons (.ret (.bi .sorted (.cons (.var 1) .nil))) .nil
def f8_2 : Ss := .cons (.fr (.tp [2, 3, 4]) (.ex (.var 0)) (.cons (.iff (.val (.cmp .nmem (.var 2) (.var 1))) (.cons (.expr (.meth .append (.var 1) (.cons (.var 2) .nil))) .nil) .nil) .nil)) f8_1
def f8 : Fn := { name := "_law_hands", ps := ["_law_rows_here"], names := ["_law_rows_here", "_law_found", "_law_hand", "_law_deed", "_law_cell"], body :=
  (.cons (.asg (.nm 1) (.lst .nil)) f8_2) }
def f9_1 : Ss := .cons (.ret (.bin .add (.bin .add (.slc (.var 1) .no (.at (.var 3))) (.tup (.cons (.call 9 (.cons (.var 0) (.cons (.idx (.var 1) (.var 3)) .nil))) .nil))) (.slc (.var 1) (.at (.bin .add (.var 3) (.lit (.int 1)))) .no))) .nil
def f9_2 : Ss := .cons (.ret (.idx (.bin .add (.var 4) (.lst (.cons (.bi .list (.cons (.var 1) .nil)) (.cons (.tup (.cons (.var 1) .nil)) (.cons (.tup .nil) .nil))))) (.call 6 (.cons (.var 0) (.cons (.lit (.int 7)) .nil))))) .nil
def f9_3 : Ss := .cons (.ret (.idx (.bin .add (.var 5) (.lst (.cons (.bin .add (.var 1) (.lit (.int 9))) .nil))) (.call 6 (.cons (.var 0) (.cons (.lit (.int 10)) .nil))))) .nil
def f9_4 : Ss := .cons (.ret (.idx (.lst (.cons (.lit .non) (.cons (.lit (.int 1)) (.cons (.tup .nil) .nil)))) (.call 6 (.cons (.var 0) (.cons (.lit (.int 3)) .nil))))) .nil
def f9_5 : Ss := .cons (.iff (.val (.isi (.var 1) "str")) (.cons (.ret (.idx (.lst (.cons (.bin .add (.var 1) (.lit (.str "w"))) (.cons (.slc (.var 1) (.at (.lit (.int 1))) .no) (.cons (.lit (.str "")) (.cons (.lit (.str "w")) (.cons (.lit (.str "r")) (.cons (.lit .non) (.cons (.lit (.int 3)) (.cons (.lit (.str "R")) (.cons (.lst (.cons (.lit (.str "r")) .nil)) .nil)))))))))) (.call 6 (.cons (.var 0) (.cons (.lit (.int 9)) .nil))))) .nil) .nil) f9_4
def f9_6 : Ss := .cons (.iff (.bool true (.cons (.val (.isi (.var 1) "int")) (.cons (.not (.val (.isi (.var 1) "bool"))) .nil))) (.cons (.asg (.nm 5) (.lst (.cons (.bin .add (.var 1) (.lit (.int 1))) (.cons (.bin .sub (.var 1) (.lit (.int 1))) (.cons (.lit (.int 0)) (.cons (.neg (.lit (.int 1))) (.cons (.cmp .eq (.var 1) (.lit (.int 1))) (.cons (.bin .pow (.lit (.int 10)) (.lit (.int 60))) (.cons (.lit .non) (.cons (.lit (.str "1")) (.cons (.lst (.cons (.var 1) .nil)) .nil))))))))))) f9_3) .nil) f9_5
def f9_7 : Ss := .cons (.iff (.val (.isi (.var 1) "tuple")) (.cons (.asg (.nm 4) (.lst (.cons (.slc (.var 1) (.at (.lit (.int 1))) .no) (.cons (.slc (.var 1) .no (.at (.neg (.lit (.int 1))))) (.cons (.rev (.var 1)) (.cons (.bin .add (.var 1) (.slc (.var 1) (.at (.neg (.lit (.int 1)))) .no)) .nil)))))) f9_2) .nil) f9_6
def f9_8 : Ss := .cons (.iff (.bool true (.cons (.val (.isi (.var 1) "tuple")) (.cons (.val (.cmp .ne (.var 1) (.tup .nil))) (.cons (.val (.cmp .lt (.var 2) (.lit (.int 6)))) .nil)))) (.cons (.asg (.nm 3) (.call 6 (.cons (.var 0) (.cons (.bi .len (.cons (.var 1) .nil)) .nil)))) f9_1) .nil) f9_7
def f9 : Fn := { name := "_law_bent", ps := ["_law_tape_here", "_law_thing"], names := ["_law_tape_here", "_law_thing", "_law_sort", "_law_at", "_law_ways", "_law_some"], body :=
  (.cons (.asg (.nm 2) (.call 6 (.cons (.var 0) (.cons (.lit (.int 8)) .nil)))) f9_8) }
def f10_1 : Ss := .cons (.fr (.nm 2) (.ex (.tup (.cons (.idx (.var 1) (.lit (.int 0))) (.cons (.idx (.var 1) (.lit (.int 2))) .nil)))) (.cons (.iff (.bool false (.cons (.not (.val (.isi (.var 2) "int"))) (.cons (.val (.isi (.var 2) "bool")) (.cons (.val (.cmp .lt (.var 2) (.lit (.int 0)))) .nil)))) (.cons (.ret (.lit (.bl false))) .nil) .nil) .nil)) .nil
def f10_2 : Ss := .cons (.ret (.lit (.bl true))) .nil
def f10_3 : Ss := .cons (.fr (.nm 1) (.ex (.var 0)) (.cons (.iff (.bool false (.cons (.not (.val (.isi (.var 1) "tuple"))) (.cons (.val (.cmp .ne (.bi .len (.cons (.var 1) .nil)) (.lit (.int 3)))) (.cons (.val (.cmp .nmem (.idx (.var 1) (.lit (.int 1))) (.tup (.cons (.lit (.str "r")) (.cons (.lit (.str "w")) .nil))))) .nil)))) (.cons (.ret (.lit (.bl false))) .nil) .nil) f10_1)) f10_2
def f10 : Fn := { name := "_law_is_one", ps := ["_law_thing"], names := ["_law_thing", "_law_row", "_law_number"], body :=
  (.cons (.iff (.not (.val (.isi (.var 0) "tuple"))) (.cons (.ret (.lit (.bl false))) .nil) .nil) f10_3) }
def f11_1 : Ss := .cons (.asg (.nm 3) (.bin .add (.var 3) (.lst (.cons (.var 5) (.cons (.call 9 (.cons (.var 1) (.cons (.var 5) .nil))) .nil))))) .nil
def f11_2 : Ss := .cons (.iff (.bool false (.cons (.val (.cmp .ne (.bi .repr (.cons (.call 2 (.cons (.var 6) .nil)) .nil)) (.bi .repr (.cons (.call 10 (.cons (.var 6) .nil)) .nil)))) (.cons (.val (.cmp .ne (.bi .repr (.cons (.var 6) .nil)) (.var 7))) .nil))) (.cons (.ret (.lit (.bl false))) .nil) .nil) .nil
def f11_3 : Ss := .cons (.iff (.val (.cmp .ne (.bi .repr (.cons (.call 4 (.cons (.var 10) (.cons (.var 9) .nil))) .nil)) (.bi .repr (.cons (.var 11) .nil)))) (.cons (.ret (.lit (.bl false))) .nil) .nil) .nil
def f11_4 : Ss := .cons (.asg (.nm 11) (.bool true (.cons (.var 11) (.cons (.cmp .ne (.bin .add (.idx (.var 10) (.lit (.int 1))) (.idx (.var 9) (.lit (.int 1)))) (.lit (.str "rr"))) .nil)))) f11_3
def f11_5 : Ss := .cons (.asg (.nm 11) (.bool true (.cons (.cmp .ne (.idx (.var 10) (.lit (.int 0))) (.idx (.var 9) (.lit (.int 0)))) (.cons (.cmp .eq (.idx (.var 10) (.lit (.int 2))) (.idx (.var 9) (.lit (.int 2)))) .nil)))) f11_4
def f11_6 : Ss := .cons (.ret (.lit (.bl true))) .nil
def f11_7 : Ss := .cons (.fr (.nm 8) (.rg1 (.bi .min (.cons (.lit (.int 9)) (.cons (.bi .len (.cons (.var 2) .nil)) .nil)))) (.cons (.fr (.nm 9) (.ex (.slc (.var 2) .no (.at (.lit (.int 9))))) (.cons (.asg (.nm 10) (.idx (.var 2) (.var 8))) f11_5)) .nil)) f11_6
def f11_8 : Ss := .cons (.iff (.bool false (.cons (.val (.cmp .ne (.bi .repr (.cons (.call 3 (.cons (.var 2) .nil)) .nil)) (.bi .repr (.cons (.bi .tuple (.cons (.call 8 (.cons (.var 2) .nil)) .nil)) .nil)))) (.cons (.val (.cmp .ne (.call 3 (.cons (.tup .nil) .nil)) (.tup .nil))) .nil))) (.cons (.ret (.lit (.bl false))) .nil) .nil) f11_7
def f11_9 : Ss := .cons (.fr (.nm 6) (.ex (.var 3)) (.cons (.asg (.nm 7) (.bi .repr (.cons (.var 6) .nil))) f11_2)) f11_8
def f11_10 : Ss := .cons (.fr (.nm 4) (.rg1 (.lit (.int 8))) (.cons (.asg (.nm 5) (.call 9 (.cons (.var 1) (.cons (.var 2) .nil)))) f11_1)) f11_9
def f11_11 : Ss := .cons (.asg (.nm 3) (.bin .add (.var 3) (.lst (.cons (.tup (.cons (.lst (.cons (.lit (.int 0)) (.cons (.lit (.str "w")) (.cons (.lit (.int 0)) .nil)))) .nil)) (.cons (.tup (.cons (.tup (.cons (.bin .pow (.lit (.int 10)) (.lit (.int 60))) (.cons (.lit (.str "w")) (.cons (.lit (.int 9)) .nil)))) .nil)) .nil))))) f11_10
def f11_12 : Ss := .cons (.asg (.nm 3) (.bin .add (.var 3) (.lst (.cons (.tup (.cons (.tup (.cons (.lit (.bl true)) (.cons (.lit (.str "r")) (.cons (.lit (.int 0)) .nil)))) .nil)) (.cons (.tup (.cons (.tup (.cons (.lit (.int 0)) (.cons (.lit (.str "w")) (.cons (.lit (.bl false)) .nil)))) .nil)) (.cons (.tup (.cons (.tup (.cons (.neg (.lit (.int 1))) (.cons (.lit (.str "w")) (.cons (.lit (.int 0)) .nil)))) .nil)) .nil)))))) f11_11
def f11_13 : Ss := .cons (.asg (.nm 3) (.lst (.cons (.var 2) (.cons (.tup .nil) (.cons (.lit .non) (.cons (.lst .nil) (.cons (.bi .list (.cons (.var 2) .nil)) (.cons (.tup (.cons (.lit (.int 1)) .nil)) (.cons (.tup (.cons (.tup .nil) .nil)) (.cons (.tup (.cons (.tup (.cons (.lit (.int 0)) (.cons (.lit (.str "r")) (.cons (.lit (.int 0)) .nil)))) .nil)) (.cons (.tup (.cons (.tup (.cons (.lit (.int 0)) (.cons (.lit (.str "r")) .nil))) .nil)) (.cons (.tup (.cons (.tup (.cons (.lit (.int 0)) (.cons (.lit (.str "x")) (.cons (.lit (.int 0)) .nil)))) .nil)) .nil)))))))))))) f11_12
def f11_14 : Ss := .cons (.asg (.nm 2) (.call 7 (.cons (.var 1) (.cons (.lit (.int 5)) (.cons (.ite (.val (.cmp .eq (.call 6 (.cons (.var 1) (.cons (.lit (.int 8)) .nil))) (.lit (.int 0)))) (.lit (.int 40)) (.lit (.int 12))) .nil))))) f11_13
def f11 : Fn := { name := "law", ps := ["_law_script"], names := ["_law_script", "_law_tape_here", "_law_rows_here", "_law_things", "_law_lap", "_law_bent_here", "_law_thing", "_law_kept", "_law_k", "_law_other", "_law_one", "_law_meant"], body :=
  (.cons (.asg (.nm 1) (.call 5 (.cons (.var 0) .nil))) f11_14) }
def g : Mdl := { con := [("DEEDS", (.tup [(.str "r"), (.str "w")]))], fns := [f0, f1, f2, f3, f4, f5, f6, f7, f8, f9, f10, f11] }
theorem m0 : mSs g f0.names (defScope (top 1)) (fun _ => true) f0.body (defBody (top 1)) = true := by decide +kernel
theorem s0 : C8.scC f0.names f0.ps (defScope (top 1)) = true := by decide +kernel
theorem m1 : mSs g f1.names (defScope (top 4)) (fun _ => true) f1.body (defBody (top 4)) = true := by decide +kernel
theorem s1 : C8.scC f1.names f1.ps (defScope (top 4)) = true := by decide +kernel
theorem m2 : mSs g f2.names (defScope (top 5)) (fun _ => true) f2.body (defBody (top 5)) = true := by decide +kernel
theorem s2 : C8.scC f2.names f2.ps (defScope (top 5)) = true := by decide +kernel
theorem m3 : mSs g f3.names (defScope (top 6)) (fun _ => true) f3.body (defBody (top 6)) = true := by decide +kernel
theorem s3 : C8.scC f3.names f3.ps (defScope (top 6)) = true := by decide +kernel
theorem m4 : mSs g f4.names (defScope (top 7)) (fun _ => true) f4.body (defBody (top 7)) = true := by decide +kernel
theorem s4 : C8.scC f4.names f4.ps (defScope (top 7)) = true := by decide +kernel
theorem m5 : mSs g f5.names (defScope (top 9)) (fun _ => true) f5.body (defBody (top 9)) = true := by decide +kernel
theorem s5 : C8.scC f5.names f5.ps (defScope (top 9)) = true := by decide +kernel
theorem m6 : mSs g f6.names (defScope (top 10)) (fun _ => true) f6.body (defBody (top 10)) = true := by decide +kernel
theorem s6 : C8.scC f6.names f6.ps (defScope (top 10)) = true := by decide +kernel
theorem m7 : mSs g f7.names (defScope (top 11)) (fun _ => true) f7.body (defBody (top 11)) = true := by decide +kernel
theorem s7 : C8.scC f7.names f7.ps (defScope (top 11)) = true := by decide +kernel
theorem m8 : mSs g f8.names (defScope (top 12)) (fun _ => true) f8.body (defBody (top 12)) = true := by decide +kernel
theorem s8 : C8.scC f8.names f8.ps (defScope (top 12)) = true := by decide +kernel
theorem m9 : mSs g f9.names (defScope (top 13)) (fun _ => true) f9.body (defBody (top 13)) = true := by decide +kernel
theorem s9 : C8.scC f9.names f9.ps (defScope (top 13)) = true := by decide +kernel
theorem m10 : mSs g f10.names (defScope (top 14)) (fun _ => true) f10.body (defBody (top 14)) = true := by decide +kernel
theorem s10 : C8.scC f10.names f10.ps (defScope (top 14)) = true := by decide +kernel
theorem m11 : mSs g f11.names (defScope (top 15)) (fun _ => true) f11.body (defBody (top 15)) = true := by decide +kernel
theorem s11 : C8.scC f11.names f11.ps (defScope (top 15)) = true := by decide +kernel
section
variable {K : PySem.W.Frag} {mg : Str → Option Value} {h : Heap} {f : Addr} {oc dc pm kV cd ct : Value} {od an : Option Addr} {sl : Array (Option Value)}
theorem d0 (X : K.In h) (N : h.Ns mainGlobals mg) (a : PySem.W.nsIn K mainGlobals "is_number" = some (some (.ref f))) (l : K.lookup f = some ⟨oc, od, .func (PySem.W.fnOf "is_number" "is_number" (defArgs (top 1)) (defBody (top 1)) (defScope (top 1)) .none kV dc pm an cd ct), sl⟩) (c : PySem.W.codeIn K cd "is_number" = true) (k : PySem.W.keepIn K (.ref f) = true) : DefG g K mg f0 :=
  ⟨f, _, _, _, _, _, _, _, _, _, _, _, _, _, _, _, PySem.W.mg_of X N a, k, l, c, (fun_mk (st := top 1) l c k).binds (ps := f0.ps) (fun _ _ _ _ _ _ us hl => match us, hl with | [_], _ => rfl), C8.fnScope_by s0, m0⟩
theorem d1 (X : K.In h) (N : h.Ns mainGlobals mg) (a : PySem.W.nsIn K mainGlobals "is_row" = some (some (.ref f))) (l : K.lookup f = some ⟨oc, od, .func (PySem.W.fnOf "is_row" "is_row" (defArgs (top 4)) (defBody (top 4)) (defScope (top 4)) .none kV dc pm an cd ct), sl⟩) (c : PySem.W.codeIn K cd "is_row" = true) (k : PySem.W.keepIn K (.ref f) = true) : DefG g K mg f1 :=
  ⟨f, _, _, _, _, _, _, _, _, _, _, _, _, _, _, _, PySem.W.mg_of X N a, k, l, c, (fun_mk (st := top 4) l c k).binds (ps := f1.ps) (fun _ _ _ _ _ _ us hl => match us, hl with | [_], _ => rfl), C8.fnScope_by s1, m1⟩
theorem d2 (X : K.In h) (N : h.Ns mainGlobals mg) (a : PySem.W.nsIn K mainGlobals "is_weaving" = some (some (.ref f))) (l : K.lookup f = some ⟨oc, od, .func (PySem.W.fnOf "is_weaving" "is_weaving" (defArgs (top 5)) (defBody (top 5)) (defScope (top 5)) .none kV dc pm an cd ct), sl⟩) (c : PySem.W.codeIn K cd "is_weaving" = true) (k : PySem.W.keepIn K (.ref f) = true) : DefG g K mg f2 :=
  ⟨f, _, _, _, _, _, _, _, _, _, _, _, _, _, _, _, PySem.W.mg_of X N a, k, l, c, (fun_mk (st := top 5) l c k).binds (ps := f2.ps) (fun _ _ _ _ _ _ us hl => match us, hl with | [_], _ => rfl), C8.fnScope_by s2, m2⟩
theorem d3 (X : K.In h) (N : h.Ns mainGlobals mg) (a : PySem.W.nsIn K mainGlobals "hands_of" = some (some (.ref f))) (l : K.lookup f = some ⟨oc, od, .func (PySem.W.fnOf "hands_of" "hands_of" (defArgs (top 6)) (defBody (top 6)) (defScope (top 6)) .none kV dc pm an cd ct), sl⟩) (c : PySem.W.codeIn K cd "hands_of" = true) (k : PySem.W.keepIn K (.ref f) = true) : DefG g K mg f3 :=
  ⟨f, _, _, _, _, _, _, _, _, _, _, _, _, _, _, _, PySem.W.mg_of X N a, k, l, c, (fun_mk (st := top 6) l c k).binds (ps := f3.ps) (fun _ _ _ _ _ _ us hl => match us, hl with | [_], _ => rfl), C8.fnScope_by s3, m3⟩
theorem d4 (X : K.In h) (N : h.Ns mainGlobals mg) (a : PySem.W.nsIn K mainGlobals "touch" = some (some (.ref f))) (l : K.lookup f = some ⟨oc, od, .func (PySem.W.fnOf "touch" "touch" (defArgs (top 7)) (defBody (top 7)) (defScope (top 7)) .none kV dc pm an cd ct), sl⟩) (c : PySem.W.codeIn K cd "touch" = true) (k : PySem.W.keepIn K (.ref f) = true) : DefG g K mg f4 :=
  ⟨f, _, _, _, _, _, _, _, _, _, _, _, _, _, _, _, PySem.W.mg_of X N a, k, l, c, (fun_mk (st := top 7) l c k).binds (ps := f4.ps) (fun _ _ _ _ _ _ us hl => match us, hl with | [_, _], _ => rfl), C8.fnScope_by s4, m4⟩
theorem d5 (X : K.In h) (N : h.Ns mainGlobals mg) (a : PySem.W.nsIn K mainGlobals "_law_tape" = some (some (.ref f))) (l : K.lookup f = some ⟨oc, od, .func (PySem.W.fnOf "_law_tape" "_law_tape" (defArgs (top 9)) (defBody (top 9)) (defScope (top 9)) .none kV dc pm an cd ct), sl⟩) (c : PySem.W.codeIn K cd "_law_tape" = true) (k : PySem.W.keepIn K (.ref f) = true) : DefG g K mg f5 :=
  ⟨f, _, _, _, _, _, _, _, _, _, _, _, _, _, _, _, PySem.W.mg_of X N a, k, l, c, (fun_mk (st := top 9) l c k).binds (ps := f5.ps) (fun _ _ _ _ _ _ us hl => match us, hl with | [_], _ => rfl), C8.fnScope_by s5, m5⟩
theorem d6 (X : K.In h) (N : h.Ns mainGlobals mg) (a : PySem.W.nsIn K mainGlobals "_law_pick" = some (some (.ref f))) (l : K.lookup f = some ⟨oc, od, .func (PySem.W.fnOf "_law_pick" "_law_pick" (defArgs (top 10)) (defBody (top 10)) (defScope (top 10)) .none kV dc pm an cd ct), sl⟩) (c : PySem.W.codeIn K cd "_law_pick" = true) (k : PySem.W.keepIn K (.ref f) = true) : DefG g K mg f6 :=
  ⟨f, _, _, _, _, _, _, _, _, _, _, _, _, _, _, _, PySem.W.mg_of X N a, k, l, c, (fun_mk (st := top 10) l c k).binds (ps := f6.ps) (fun _ _ _ _ _ _ us hl => match us, hl with | [_, _], _ => rfl), C8.fnScope_by s6, m6⟩
theorem d7 (X : K.In h) (N : h.Ns mainGlobals mg) (a : PySem.W.nsIn K mainGlobals "_law_rows" = some (some (.ref f))) (l : K.lookup f = some ⟨oc, od, .func (PySem.W.fnOf "_law_rows" "_law_rows" (defArgs (top 11)) (defBody (top 11)) (defScope (top 11)) .none kV dc pm an cd ct), sl⟩) (c : PySem.W.codeIn K cd "_law_rows" = true) (k : PySem.W.keepIn K (.ref f) = true) : DefG g K mg f7 :=
  ⟨f, _, _, _, _, _, _, _, _, _, _, _, _, _, _, _, PySem.W.mg_of X N a, k, l, c, (fun_mk (st := top 11) l c k).binds (ps := f7.ps) (fun _ _ _ _ _ _ us hl => match us, hl with | [_, _, _], _ => rfl), C8.fnScope_by s7, m7⟩
theorem d8 (X : K.In h) (N : h.Ns mainGlobals mg) (a : PySem.W.nsIn K mainGlobals "_law_hands" = some (some (.ref f))) (l : K.lookup f = some ⟨oc, od, .func (PySem.W.fnOf "_law_hands" "_law_hands" (defArgs (top 12)) (defBody (top 12)) (defScope (top 12)) .none kV dc pm an cd ct), sl⟩) (c : PySem.W.codeIn K cd "_law_hands" = true) (k : PySem.W.keepIn K (.ref f) = true) : DefG g K mg f8 :=
  ⟨f, _, _, _, _, _, _, _, _, _, _, _, _, _, _, _, PySem.W.mg_of X N a, k, l, c, (fun_mk (st := top 12) l c k).binds (ps := f8.ps) (fun _ _ _ _ _ _ us hl => match us, hl with | [_], _ => rfl), C8.fnScope_by s8, m8⟩
theorem d9 (X : K.In h) (N : h.Ns mainGlobals mg) (a : PySem.W.nsIn K mainGlobals "_law_bent" = some (some (.ref f))) (l : K.lookup f = some ⟨oc, od, .func (PySem.W.fnOf "_law_bent" "_law_bent" (defArgs (top 13)) (defBody (top 13)) (defScope (top 13)) .none kV dc pm an cd ct), sl⟩) (c : PySem.W.codeIn K cd "_law_bent" = true) (k : PySem.W.keepIn K (.ref f) = true) : DefG g K mg f9 :=
  ⟨f, _, _, _, _, _, _, _, _, _, _, _, _, _, _, _, PySem.W.mg_of X N a, k, l, c, (fun_mk (st := top 13) l c k).binds (ps := f9.ps) (fun _ _ _ _ _ _ us hl => match us, hl with | [_, _], _ => rfl), C8.fnScope_by s9, m9⟩
theorem d10 (X : K.In h) (N : h.Ns mainGlobals mg) (a : PySem.W.nsIn K mainGlobals "_law_is_one" = some (some (.ref f))) (l : K.lookup f = some ⟨oc, od, .func (PySem.W.fnOf "_law_is_one" "_law_is_one" (defArgs (top 14)) (defBody (top 14)) (defScope (top 14)) .none kV dc pm an cd ct), sl⟩) (c : PySem.W.codeIn K cd "_law_is_one" = true) (k : PySem.W.keepIn K (.ref f) = true) : DefG g K mg f10 :=
  ⟨f, _, _, _, _, _, _, _, _, _, _, _, _, _, _, _, PySem.W.mg_of X N a, k, l, c, (fun_mk (st := top 14) l c k).binds (ps := f10.ps) (fun _ _ _ _ _ _ us hl => match us, hl with | [_], _ => rfl), C8.fnScope_by s10, m10⟩
theorem d11 (X : K.In h) (N : h.Ns mainGlobals mg) (a : PySem.W.nsIn K mainGlobals "law" = some (some (.ref f))) (l : K.lookup f = some ⟨oc, od, .func (PySem.W.fnOf "law" "law" (defArgs (top 15)) (defBody (top 15)) (defScope (top 15)) .none kV dc pm an cd ct), sl⟩) (c : PySem.W.codeIn K cd "law" = true) (k : PySem.W.keepIn K (.ref f) = true) : DefG g K mg f11 :=
  ⟨f, _, _, _, _, _, _, _, _, _, _, _, _, _, _, _, PySem.W.mg_of X N a, k, l, c, (fun_mk (st := top 15) l c k).binds (ps := f11.ps) (fun _ _ _ _ _ _ us hl => match us, hl with | [_], _ => rfl), C8.fnScope_by s11, m11⟩
end
theorem all_mk {K : PySem.W.Frag} {mg : Str → Option Value} {h : Heap} {q0 : Addr} {oc0 dc0 pm0 kV0 cd0 ct0 : Value} {od0 an0 : Option Addr} {sl0 : Array (Option Value)} {q1 : Addr} {oc1 dc1 pm1 kV1 cd1 ct1 : Value} {od1 an1 : Option Addr} {sl1 : Array (Option Value)} {q2 : Addr} {oc2 dc2 pm2 kV2 cd2 ct2 : Value} {od2 an2 : Option Addr} {sl2 : Array (Option Value)} {q3 : Addr} {oc3 dc3 pm3 kV3 cd3 ct3 : Value} {od3 an3 : Option Addr} {sl3 : Array (Option Value)} {q4 : Addr} {oc4 dc4 pm4 kV4 cd4 ct4 : Value} {od4 an4 : Option Addr} {sl4 : Array (Option Value)} {q5 : Addr} {oc5 dc5 pm5 kV5 cd5 ct5 : Value} {od5 an5 : Option Addr} {sl5 : Array (Option Value)} {q6 : Addr} {oc6 dc6 pm6 kV6 cd6 ct6 : Value} {od6 an6 : Option Addr} {sl6 : Array (Option Value)} {q7 : Addr} {oc7 dc7 pm7 kV7 cd7 ct7 : Value} {od7 an7 : Option Addr} {sl7 : Array (Option Value)} {q8 : Addr} {oc8 dc8 pm8 kV8 cd8 ct8 : Value} {od8 an8 : Option Addr} {sl8 : Array (Option Value)} {q9 : Addr} {oc9 dc9 pm9 kV9 cd9 ct9 : Value} {od9 an9 : Option Addr} {sl9 : Array (Option Value)} {q10 : Addr} {oc10 dc10 pm10 kV10 cd10 ct10 : Value} {od10 an10 : Option Addr} {sl10 : Array (Option Value)} {q11 : Addr} {oc11 dc11 pm11 kV11 cd11 ct11 : Value} {od11 an11 : Option Addr} {sl11 : Array (Option Value)} {ga0 : Addr} {god0 : Option Addr} {gt0 : Array Value} {gn0 : Nat} {gsl0 : Array (Option Value)} (X : K.In h) (N : h.Ns mainGlobals mg) (a0 : PySem.W.nsIn K mainGlobals "is_number" = some (some (.ref q0)))
  (l0 : K.lookup q0 = some ⟨oc0, od0, .func (PySem.W.fnOf "is_number" "is_number" (defArgs (top 1)) (defBody (top 1)) (defScope (top 1)) .none kV0 dc0 pm0 an0 cd0 ct0), sl0⟩)
  (c0 : PySem.W.codeIn K cd0 "is_number" = true)
  (k0 : PySem.W.keepIn K (.ref q0) = true)
  (a1 : PySem.W.nsIn K mainGlobals "is_row" = some (some (.ref q1)))
  (l1 : K.lookup q1 = some ⟨oc1, od1, .func (PySem.W.fnOf "is_row" "is_row" (defArgs (top 4)) (defBody (top 4)) (defScope (top 4)) .none kV1 dc1 pm1 an1 cd1 ct1), sl1⟩)
  (c1 : PySem.W.codeIn K cd1 "is_row" = true)
  (k1 : PySem.W.keepIn K (.ref q1) = true)
  (a2 : PySem.W.nsIn K mainGlobals "is_weaving" = some (some (.ref q2)))
  (l2 : K.lookup q2 = some ⟨oc2, od2, .func (PySem.W.fnOf "is_weaving" "is_weaving" (defArgs (top 5)) (defBody (top 5)) (defScope (top 5)) .none kV2 dc2 pm2 an2 cd2 ct2), sl2⟩)
  (c2 : PySem.W.codeIn K cd2 "is_weaving" = true)
  (k2 : PySem.W.keepIn K (.ref q2) = true)
  (a3 : PySem.W.nsIn K mainGlobals "hands_of" = some (some (.ref q3)))
  (l3 : K.lookup q3 = some ⟨oc3, od3, .func (PySem.W.fnOf "hands_of" "hands_of" (defArgs (top 6)) (defBody (top 6)) (defScope (top 6)) .none kV3 dc3 pm3 an3 cd3 ct3), sl3⟩)
  (c3 : PySem.W.codeIn K cd3 "hands_of" = true)
  (k3 : PySem.W.keepIn K (.ref q3) = true)
  (a4 : PySem.W.nsIn K mainGlobals "touch" = some (some (.ref q4)))
  (l4 : K.lookup q4 = some ⟨oc4, od4, .func (PySem.W.fnOf "touch" "touch" (defArgs (top 7)) (defBody (top 7)) (defScope (top 7)) .none kV4 dc4 pm4 an4 cd4 ct4), sl4⟩)
  (c4 : PySem.W.codeIn K cd4 "touch" = true)
  (k4 : PySem.W.keepIn K (.ref q4) = true)
  (a5 : PySem.W.nsIn K mainGlobals "_law_tape" = some (some (.ref q5)))
  (l5 : K.lookup q5 = some ⟨oc5, od5, .func (PySem.W.fnOf "_law_tape" "_law_tape" (defArgs (top 9)) (defBody (top 9)) (defScope (top 9)) .none kV5 dc5 pm5 an5 cd5 ct5), sl5⟩)
  (c5 : PySem.W.codeIn K cd5 "_law_tape" = true)
  (k5 : PySem.W.keepIn K (.ref q5) = true)
  (a6 : PySem.W.nsIn K mainGlobals "_law_pick" = some (some (.ref q6)))
  (l6 : K.lookup q6 = some ⟨oc6, od6, .func (PySem.W.fnOf "_law_pick" "_law_pick" (defArgs (top 10)) (defBody (top 10)) (defScope (top 10)) .none kV6 dc6 pm6 an6 cd6 ct6), sl6⟩)
  (c6 : PySem.W.codeIn K cd6 "_law_pick" = true)
  (k6 : PySem.W.keepIn K (.ref q6) = true)
  (a7 : PySem.W.nsIn K mainGlobals "_law_rows" = some (some (.ref q7)))
  (l7 : K.lookup q7 = some ⟨oc7, od7, .func (PySem.W.fnOf "_law_rows" "_law_rows" (defArgs (top 11)) (defBody (top 11)) (defScope (top 11)) .none kV7 dc7 pm7 an7 cd7 ct7), sl7⟩)
  (c7 : PySem.W.codeIn K cd7 "_law_rows" = true)
  (k7 : PySem.W.keepIn K (.ref q7) = true)
  (a8 : PySem.W.nsIn K mainGlobals "_law_hands" = some (some (.ref q8)))
  (l8 : K.lookup q8 = some ⟨oc8, od8, .func (PySem.W.fnOf "_law_hands" "_law_hands" (defArgs (top 12)) (defBody (top 12)) (defScope (top 12)) .none kV8 dc8 pm8 an8 cd8 ct8), sl8⟩)
  (c8 : PySem.W.codeIn K cd8 "_law_hands" = true)
  (k8 : PySem.W.keepIn K (.ref q8) = true)
  (a9 : PySem.W.nsIn K mainGlobals "_law_bent" = some (some (.ref q9)))
  (l9 : K.lookup q9 = some ⟨oc9, od9, .func (PySem.W.fnOf "_law_bent" "_law_bent" (defArgs (top 13)) (defBody (top 13)) (defScope (top 13)) .none kV9 dc9 pm9 an9 cd9 ct9), sl9⟩)
  (c9 : PySem.W.codeIn K cd9 "_law_bent" = true)
  (k9 : PySem.W.keepIn K (.ref q9) = true)
  (a10 : PySem.W.nsIn K mainGlobals "_law_is_one" = some (some (.ref q10)))
  (l10 : K.lookup q10 = some ⟨oc10, od10, .func (PySem.W.fnOf "_law_is_one" "_law_is_one" (defArgs (top 14)) (defBody (top 14)) (defScope (top 14)) .none kV10 dc10 pm10 an10 cd10 ct10), sl10⟩)
  (c10 : PySem.W.codeIn K cd10 "_law_is_one" = true)
  (k10 : PySem.W.keepIn K (.ref q10) = true)
  (a11 : PySem.W.nsIn K mainGlobals "law" = some (some (.ref q11)))
  (l11 : K.lookup q11 = some ⟨oc11, od11, .func (PySem.W.fnOf "law" "law" (defArgs (top 15)) (defBody (top 15)) (defScope (top 15)) .none kV11 dc11 pm11 an11 cd11 ct11), sl11⟩)
  (c11 : PySem.W.codeIn K cd11 "law" = true)
  (k11 : PySem.W.keepIn K (.ref q11) = true)
  (gl0 : PySem.W.nsIn K mainGlobals "DEEDS" = some (some (.ref ga0)))
  (lk0 : K.lookup ga0 = some ⟨.type "tuple", god0, .seq gt0 gn0, gsl0⟩)
  (vl0 : Vals [V.str "r", V.str "w"] gt0.toList)
  (z0 : PySem.W.nsIn K mainGlobals "len" = some none)
  (z1 : PySem.W.nsIn K mainGlobals "list" = some none)
  (z2 : PySem.W.nsIn K mainGlobals "tuple" = some none)
  (z3 : PySem.W.nsIn K mainGlobals "str" = some none)
  (z4 : PySem.W.nsIn K mainGlobals "repr" = some none)
  (z5 : PySem.W.nsIn K mainGlobals "ord" = some none)
  (z6 : PySem.W.nsIn K mainGlobals "int" = some none)
  (z7 : PySem.W.nsIn K mainGlobals "all" = some none)
  (z8 : PySem.W.nsIn K mainGlobals "any" = some none)
  (z9 : PySem.W.nsIn K mainGlobals "sum" = some none)
  (z10 : PySem.W.nsIn K mainGlobals "sorted" = some none)
  (z11 : PySem.W.nsIn K mainGlobals "max" = some none)
  (z12 : PySem.W.nsIn K mainGlobals "min" = some none)
  (z13 : PySem.W.nsIn K mainGlobals "dict" = some none)
  (z14 : PySem.W.nsIn K mainGlobals "set" = some none)
  (z15 : PySem.W.nsIn K mainGlobals "isinstance" = some none)
  (z16 : PySem.W.nsIn K mainGlobals "range" = some none)
  (z17 : PySem.W.nsIn K mainGlobals "bool" = some none) : Mod0 g K mg := by
  refine ⟨fun x hx => ?_, fun p hp => ?_, fun F hF => ?_⟩
  · have hx : x ∈ (["len", "list", "tuple", "str", "repr", "ord", "int", "all", "any", "sum", "sorted", "max", "min", "dict", "set", "isinstance", "range", "bool"] : List Str) := hx
    simp only [List.mem_cons, List.not_mem_nil, or_false] at hx
    rcases hx with rfl | rfl | rfl | rfl | rfl | rfl | rfl | rfl | rfl | rfl | rfl | rfl | rfl | rfl | rfl | rfl | rfl | rfl
    · exact PySem.W.mg_none_of X N z0
    · exact PySem.W.mg_none_of X N z1
    · exact PySem.W.mg_none_of X N z2
    · exact PySem.W.mg_none_of X N z3
    · exact PySem.W.mg_none_of X N z4
    · exact PySem.W.mg_none_of X N z5
    · exact PySem.W.mg_none_of X N z6
    · exact PySem.W.mg_none_of X N z7
    · exact PySem.W.mg_none_of X N z8
    · exact PySem.W.mg_none_of X N z9
    · exact PySem.W.mg_none_of X N z10
    · exact PySem.W.mg_none_of X N z11
    · exact PySem.W.mg_none_of X N z12
    · exact PySem.W.mg_none_of X N z13
    · exact PySem.W.mg_none_of X N z14
    · exact PySem.W.mg_none_of X N z15
    · exact PySem.W.mg_none_of X N z16
    · exact PySem.W.mg_none_of X N z17
  · have hp : p ∈ ([("DEEDS", (.tup [(.str "r"), (.str "w")]))] : List (Str × D)) := hp
    simp only [List.mem_cons, List.not_mem_nil, or_false] at hp
    rcases hp with rfl
    · exact ⟨_, V.ref ga0, PySem.W.mg_of X N gl0, rfl, fun _ _ => .tup (.inr ⟨_, _, _, lk0, rfl, rfl, vals_room vl0 (by simp), vl0⟩) (.cons (.str _) (.cons (.str _) (.nil)))⟩
  · have hF : F ∈ ([f0, f1, f2, f3, f4, f5, f6, f7, f8, f9, f10, f11] : List Fn) := hF
    simp only [List.mem_cons, List.not_mem_nil, or_false] at hF
    rcases hF with rfl | rfl | rfl | rfl | rfl | rfl | rfl | rfl | rfl | rfl | rfl | rfl
    · exact d0 X N a0 l0 c0 k0
    · exact d1 X N a1 l1 c1 k1
    · exact d2 X N a2 l2 c2 k2
    · exact d3 X N a3 l3 c3 k3
    · exact d4 X N a4 l4 c4 k4
    · exact d5 X N a5 l5 c5 k5
    · exact d6 X N a6 l6 c6 k6
    · exact d7 X N a7 l7 c7 k7
    · exact d8 X N a8 l8 c8 k8
    · exact d9 X N a9 l9 c9 k9
    · exact d10 X N a10 l10 c10 k10
    · exact d11 X N a11 l11 c11 k11
end Lw

namespace Lw
open PySem L2 Cp
/-! ### small things -/
theorem at0 {α : Type} {M : List α} {x : α} {L : List α} : (M ++ x :: L)[M.length]? = some x := by rw [List.getElem?_append_right (Nat.le_refl _), Nat.sub_self]; rfl
theorem at1 {α : Type} {M : List α} {x y : α} {L : List α} : (M ++ x :: y :: L)[M.length + 1]? = some y := by rw [List.getElem?_append_right (by omega), Nat.add_sub_cancel_left]; rfl
theorem at2 {α : Type} {M : List α} {x y z : α} {L : List α} : (M ++ x :: y :: z :: L)[M.length + 2]? = some z := by rw [List.getElem?_append_right (by omega), Nat.add_sub_cancel_left]; rfl
theorem at3 {α : Type} {M : List α} {x y z u : α} {L : List α} : (M ++ x :: y :: z :: u :: L)[M.length + 3]? = some u := by rw [List.getElem?_append_right (by omega), Nat.add_sub_cancel_left]; rfl
theorem gwA {M L : Mem} : Gw M (M ++ L) := fun i u e => by rw [List.getElem?_append_left (List.getElem?_eq_some_iff.mp e).1]; exact e
theorem mul_ok {i j : Int} (hi : i.natAbs < 2 ^ 200) (hj : j.natAbs < 2 ^ 200) : mulOk i j = true := by
  unfold mulOk
  refine decide_eq_true ?_
  have h : ∀ n : Nat, n < 2 ^ 200 → n.log2 < 200 := fun n hn => by
    by_cases h0 : n = 0
    · subst h0; rw [Nat.log2_zero]; omega
    · exact (Nat.log2_lt h0).mpr hn
  have := h _ hi
  have := h _ hj
  omega
theorem lo64 {i : Int} (h0 : 0 ≤ i) (h : i < 2 ^ 64) : i.natAbs < 2 ^ 200 := Nat.lt_of_lt_of_le (by omega : i.natAbs < 2 ^ 64) (Nat.pow_le_pow_right (by decide) (by decide))
theorem mul64 {i j : Int} (h0 : 0 ≤ i) (h : i < 2 ^ 64) (h0' : 0 ≤ j) (h' : j < 2 ^ 64) : mulOk i j = true := mul_ok (lo64 h0 h) (lo64 h0' h')
theorem div_ok {j : Int} (h0 : 0 < j) (h : j < 2 ^ 64) : divOk j = true := by
  unfold divOk
  rw [Bool.and_eq_true]
  refine ⟨decide_eq_true h0, decide_eq_true ?_⟩
  have : j.natAbs.log2 < 64 := (Nat.log2_lt (by omega)).mpr (by omega)
  omega
theorem eq_nilI {M : Mem} {a b : Nat} {l : List Int} (ha : M[a]? = some (.lst (l.map D.int))) (hb : M[b]? = some (.lst [])) : eqD M (.ref a) (.ref b) = some l.isEmpty := by
  have h1 : PyAll M (l.map D.int) (l.map PyData.int) := by
    clear ha
    induction l with
    | nil => exact .nil
    | cons i l ih => exact .cons (.int i) ih
  have h2 : PyData.canLayAll0 (l.map PyData.int) = true ∧ PyData.depthAll (l.map PyData.int) = 0 := by
    clear ha h1
    induction l with
    | nil => exact ⟨rfl, rfl⟩
    | cons i l ih => exact ⟨by show (true && PyData.canLayAll0 (l.map PyData.int)) = true; rw [ih.1]; rfl, by show max 0 (PyData.depthAll (l.map PyData.int)) = 0; rw [ih.2]; rfl⟩
  rw [eqD_of (.lst ha h1) (.lst hb .nil) (shaped_of h2.1 (by show PyData.depthAll (l.map PyData.int) + 1 ≤ 64; omega)) (shaped_of rfl (by decide))]
  cases l with
  | nil => rfl
  | cons _ _ => rfl
theorem pow18 : powOk 10 18 = true := by decide +kernel
theorem pow60 : powOk 10 60 = true := by decide +kernel
theorem idx_ref {M : Mem} {i : Nat} {xs : List D} {k : Int} {x : D} (h : M[i]? = some (.lst xs)) (e : atI xs k = some x) : idxD M (.ref i) (.int k) = some x := by
  show (match M[i]? with | some (MO.lst xs) => atI xs k | some (.dct kvs) => _ | none => none) = _
  rw [h]; exact e
theorem set_ref {M : Mem} {i j : Nat} {xs : List D} {k : Int} {x : D} (h : M[i]? = some (.lst xs)) (e : ixN xs.length k = some j) : Cp.setItem M (.ref i) (.int k) x = .ok (M.set i (.lst (xs.set j x))) := by
  simp only [Cp.setItem, h, e, R.of]
/-! ### the tape -/
def td (c : Nat) (p q r : Int) : List D := [.ref c, .int p, .int q, .int r]
def Tape (M : Mem) (a : Nat) (B : Nat) : Prop := ∃ (c : Nat) (l : List Int) (p q r : Int), M[a]? = some (.lst (td c p q r)) ∧ c < a ∧ M[c]? = some (.lst (l.map D.int)) ∧ l.length ≤ 63 ∧ 0 ≤ p ∧ 0 ≤ q ∧ 0 ≤ r ∧ r ≤ B
theorem Tape.mono {M : Mem} {a B B' : Nat} (h : Tape M a B) (k : B ≤ B') : Tape M a B' := by
  obtain ⟨c, l, p, q, r, h1, h2, h3, h4, h5, h6, h7, h8⟩ := h
  exact ⟨c, l, p, q, r, h1, h2, h3, h4, h5, h6, h7, by omega⟩
theorem Tape.gw {M M' : Mem} {a B : Nat} (h : Tape M a B) (g : Gw M M') : Tape M' a B := by
  obtain ⟨c, l, p, q, r, h1, h2, h3, h4⟩ := h
  exact ⟨c, l, p, q, r, g _ _ h1, h2, g _ _ h3, h4⟩
theorem Tape.lt {M : Mem} {a B : Nat} (h : Tape M a B) : a < M.length := by obtain ⟨_, _, _, _, _, e, _⟩ := h; exact (List.getElem?_eq_some_iff.mp e).1
theorem Tape.set {M : Mem} {a B s : Nat} {o : MO} (h : Tape M a B) (hs : a < s) : Tape (M.set s o) a B := by
  obtain ⟨c, l, p, q, r, h1, h2, h3, h4⟩ := h
  exact ⟨c, l, p, q, r, by rw [List.getElem?_set_ne (by omega)]; exact h1, h2, by rw [List.getElem?_set_ne (by omega)]; exact h3, h4⟩
theorem _root_.Cp.Gr.len {M M' : Mem} {a B : Nat} (g : Gr a M M') (f : Tape M' a B) : M.length ≤ M'.length := by
  by_cases h : M.length ≤ M'.length
  · exact h
  · exfalso
    have hl : M.length - 1 < M.length := by omega
    by_cases e : M.length - 1 = a
    · have := f.lt; omega
    · have := g _ _ e (List.getElem?_eq_getElem hl)
      have := (List.getElem?_eq_some_iff.mp this).1
      omega
theorem _root_.Cp.Gr.setN {M M' : Mem} {a s : Nat} {o : MO} (h : Gr a M M') (hs : M.length ≤ s) : Gr a M (M'.set s o) := fun i u ne e => by
  have := (List.getElem?_eq_some_iff.mp e).1
  rw [List.getElem?_set_ne (by omega)]
  exact h i u ne e
theorem tape_run {n : Nat} {ns : List Int} {Q : D × Mem → Prop} (hl : ns.length ≤ 63) (w : ∀ M' a, Tape M' a 0 → Q (.ref a, M')) : Run (callF g (n + 1) 5 [.frl (ns.map .int)] []) Q := by
  refine run_call [.frl (ns.map .int)] (F := f5) rfl rfl ?_
  show Run (evSs _ _ _ [some (.frl (ns.map .int))] []) _
  simp [f5, evSs, evS, ev, evs, evV, evT, evTs, evp, evI, evO, evG, run_ok, run_bind, run_when, run_of, Lit.d, slcD, newM, biD, itemsD, sizeLine_eq]
  refine w _ _ ⟨1, ns.take 63, 0, 0, 0, ?_, by decide, ?_, by rw [List.length_take]; omega, Int.le_refl _, Int.le_refl _, Int.le_refl _, Int.le_refl _⟩
  · rfl
  · show some (MO.lst _) = some (MO.lst _)
    congr 2
    have h1 : HT.sIx (ns.map D.int).length 0 none = 0 := rfl
    have h2 : HT.sIx (ns.map D.int).length (ns.map D.int).length (some 63) = min 63 ns.length := by rw [show (63 : Int) = ((63 : Nat) : Int) from rfl, HT.sIx_nat, List.length_map]
    unfold cutL
    rw [h1, h2]
    rw [List.drop_zero, Nat.sub_zero, List.map_take, Nat.min_eq_right hl, List.take_of_length_le (by rw [List.length_map]; omega), List.take_of_length_le (by rw [List.length_map]; omega)]
theorem pick_run {n : Nat} {M : Mem} {a B : Nat} {many : Int} {Q : D × Mem → Prop} (hf : Tape M a B) (hB : B ≤ 1000000000) (h0 : 0 < many) (h1 : many < 2 ^ 64)
    (w : ∀ r M', 0 ≤ r → r < many → Tape M' a (B + 1) → Gr a M M' → Q (.int r, M')) : Run (callF g (n + 1) 6 [.ref a, .int many] M) Q := by
  obtain ⟨c, l, p, q, r, e1, lca, e2, hl, hp, hq, hr, hrB⟩ := hf
  have ne : c ≠ a := Nat.ne_of_lt lca
  have lk : ∀ {M : Mem} {p q r : Int}, M[a]? = some (.lst (td c p q r)) → idxD M (.ref a) (.int 0) = some (.ref c) ∧ idxD M (.ref a) (.int 1) = some (.int p) ∧ idxD M (.ref a) (.int 2) = some (.int q) ∧ idxD M (.ref a) (.int 3) = some (.int r) := fun h => ⟨idx_ref h rfl, idx_ref h rfl, idx_ref h rfl, idx_ref h rfl⟩
  have st1 : ∀ {M : Mem} {p q r v : Int}, M[a]? = some (.lst (td c p q r)) → Cp.setItem M (.ref a) (.int 1) (.int v) = .ok (M.set a (.lst (td c v q r))) := fun {M p q r v} h => set_ref (k := 1) (j := 1) (x := .int v) h rfl
  have st2 : ∀ {M : Mem} {p q r v : Int}, M[a]? = some (.lst (td c p q r)) → Cp.setItem M (.ref a) (.int 2) (.int v) = .ok (M.set a (.lst (td c p v r))) := fun {M p q r v} h => set_ref (k := 2) (j := 2) (x := .int v) h rfl
  have st3 : ∀ {M : Mem} {p q r v : Int}, M[a]? = some (.lst (td c p q r)) → Cp.setItem M (.ref a) (.int 3) (.int v) = .ok (M.set a (.lst (td c p q v))) := fun {M p q r v} h => set_ref (k := 3) (j := 3) (x := .int v) h rfl
  refine run_call [.ref a, .int many] (F := f6) rfl rfl ?_
  show Run (evSs _ _ _ [some (.ref a), some (.int many), none, none, none, none] M) _
  refine run_cons ?_
  simp [evSs, evS, ev, evs, evV, evT, evTs, evp, evI, evO, evG, run_ok, run_bind, run_when, run_of, lk e1, st3 e1, binD, Lit.d]
  have s1 : (M.set a (MO.lst (td c p q (r + 1))))[a]? = some (.lst (td c p q (r + 1))) := at_set e1
  have s2 : (M.set a (MO.lst (td c p q (r + 1))))[c]? = some (.lst (l.map D.int)) := by rw [List.getElem?_set_ne (Ne.symm ne)]; exact e2
  have g1 : Gr a M (M.set a (MO.lst (td c p q (r + 1)))) := .set
  generalize M.set a (MO.lst (td c p q (r + 1))) = M1 at s1 s2 g1 ⊢
  have fin : ∀ (M2 : Mem) (p' q' : Int), Gr a M1 M2 → M2[a]? = some (.lst (td c p' q' (r + 1))) → 0 ≤ p' → 0 ≤ q' → Tape M2 a (B + 1) := fun M2 p' q' gg h1 h2 h3 => ⟨c, l, p', q', r + 1, h1, lca, gg c _ ne s2, hl, h2, h3, by omega, by omega⟩
  have dk := div_ok h0 h1
  refine run_cons ?_
  by_cases hq0 : 0 < q
  · simp [evSs, evS, ev, evs, evV, evT, evTs, evp, evI, evO, evG, run_ok, run_bind, run_when, run_of, lk s1, binD, Lit.d, cmpD, truth, hq0, h0]
    refine run_cons ?_
    simp [evSs, evS, ev, evs, evV, evT, evTs, evp, evI, evO, evG, run_ok, run_bind, run_when, run_of, lk s1, st2 s1, binD, Lit.d, hq0, h0, dk]
    refine run_cons ?_
    simp [evSs, evS, ev, evs, evV, evT, evTs, evp, evI, evO, evG, run_ok, run_bind, run_when, run_of]
    have m := Int.emod_nonneg q (by omega : many ≠ 0)
    have m2 := Int.emod_lt_of_pos q h0
    exact w _ _ m m2 (fin _ p (q / many) .set (at_set s1) hp (Int.ediv_nonneg hq (by omega))) (g1.trans .set)
  · simp [evSs, evS, ev, evs, evV, evT, evTs, evp, evI, evO, evG, run_ok, run_bind, run_when, run_of, lk s1, binD, Lit.d, cmpD, truth, hq0]
    refine run_cons ?_
    simp [evSs, evS, ev, evs, evV, evT, evTs, evp, evI, evO, evG, run_ok, run_bind, run_when, run_of, lk s1, Lit.d]
    refine run_cons ?_
    simp [evSs, evS, ev, evs, evV, evT, evTs, evp, evI, evO, evG, run_ok, run_bind, run_when, run_of, st1 s1, binD, Lit.d]
    have s3 : (M1.set a (MO.lst (td c (p + 1) q (r + 1))))[a]? = some (.lst (td c (p + 1) q (r + 1))) := at_set s1
    have s4 : (M1.set a (MO.lst (td c (p + 1) q (r + 1))))[c]? = some (.lst (l.map D.int)) := by rw [List.getElem?_set_ne (Ne.symm ne)]; exact s2
    have g2 : Gr a M1 (M1.set a (MO.lst (td c (p + 1) q (r + 1)))) := .set
    generalize M1.set a (MO.lst (td c (p + 1) q (r + 1))) = M2 at s3 s4 g2 ⊢
    -- the cell
    have g3 : Gw M2 (M2 ++ [MO.lst []]) := .new
    have t1 := g3 _ _ s3
    have t2 := g3 _ _ s4
    have en := eq_nilI t2 (at_new (M := M2) (o := MO.lst []))
    have g4 : Gr a M2 (M2 ++ [MO.lst []]) := .new
    -- what follows, whatever the cell
    have next : ∀ v : Int, Run (evSs g (callF g n) f6_8 [some (.ref a), some (.int many), none, some (.int p), some (.int v), none] (M2 ++ [MO.lst []])) fun q => match q.1 with | .rt d => Q (d, q.2.2) | .nx => Q (.non, q.2.2) | _ => False := by
      intro v
      generalize M2 ++ [MO.lst []] = M3 at t1 t2 g4 ⊢
      have m := Int.emod_nonneg v (by omega : many ≠ 0)
      have m2 := Int.emod_lt_of_pos v h0
      have late : Run (evSs g (callF g n) f6_7 [some (.ref a), some (.int many), none, some (.int p), some (.int v), none] M3) fun q => match q.1 with | .rt d => Q (d, q.2.2) | .nx => Q (.non, q.2.2) | _ => False := by
        refine run_cons ?_
        have b1 := Int.emod_nonneg v (by decide : (2147483647 : Int) ≠ 0)
        have b2 := Int.emod_lt_of_pos v (by decide : (0 : Int) < 2147483647)
        have k1 : mulOk 55399 (r + 1) = true := mul64 (by decide) (by decide) (by omega) (by omega)
        simp [evSs, evS, ev, evs, evV, evT, evTs, evp, evI, evO, evG, run_ok, run_bind, run_when, run_of, lk t1, binD, Lit.d, k1]
        generalize (v % 2147483647 + 55399 * (r + 1) + 37) = x1
        have b3 := Int.emod_nonneg x1 (by decide : (2147483629 : Int) ≠ 0)
        have b4 := Int.emod_lt_of_pos x1 (by decide : (0 : Int) < 2147483629)
        generalize x1 % 2147483629 = x2 at b3 b4 ⊢
        refine run_cons ?_
        have k2 : mulOk x2 x2 = true := mul64 b3 (by omega) b3 (by omega)
        have k3 : mulOk 24229 (r + 1) = true := mul64 (by decide) (by decide) (by omega) (by omega)
        simp [evSs, evS, ev, evs, evV, evT, evTs, evp, evI, evO, evG, run_ok, run_bind, run_when, run_of, lk t1, binD, Lit.d, k2, k3]
        generalize (x2 * x2 + 24229 * (r + 1) + 13) = x3
        have b5 := Int.emod_nonneg x3 (by decide : (2147483587 : Int) ≠ 0)
        have b6 := Int.emod_lt_of_pos x3 (by decide : (0 : Int) < 2147483587)
        generalize x3 % 2147483587 = x4 at b5 b6 ⊢
        refine run_cons ?_
        have k4 : mulOk x4 x4 = true := mul64 b5 (by omega) b5 (by omega)
        have k5 : mulOk 15803 x4 = true := mul64 (by decide) (by decide) b5 (by omega)
        have k6 : divOk 256 = true := div_ok (by decide) (by decide)
        simp [evSs, evS, ev, evs, evV, evT, evTs, evp, evI, evO, evG, run_ok, run_bind, run_when, run_of, binD, Lit.d, k4, k5]
        refine run_cons ?_
        simp [evSs, evS, ev, evs, evV, evT, evTs, evp, evI, evO, evG, run_ok, run_bind, run_when, run_of, binD, Lit.d, k6, h0]
        exact w _ _ (Int.emod_nonneg _ (by omega)) (Int.emod_lt_of_pos _ h0) (fin _ (p + 1) q (g2.trans g4) t1 (by omega) hq) (g1.trans (g2.trans g4))
      refine run_cons ?_
      generalize l.map D.int = L at t2
      have ln : biD M3 .len [.ref c] = .ok (.int L.length, M3) := by simp [biD, lenD, t2]
      by_cases c1 : (1000000000000000000 : Int) ≤ v
      · by_cases c2 : p < (L.length : Nat)
        · simp [evSs, evS, ev, evs, evV, evT, evTs, evp, evI, evO, evG, run_ok, run_bind, run_when, run_of, lk t1, st2 t1, binD, Lit.d, pow18, cmpD, truth, c1, ln, c2, h0, dk]
          refine run_cons ?_
          simp [evSs, evS, ev, evs, evV, evT, evTs, evp, evI, evO, evG, run_ok, run_bind, run_when, run_of, h0, binD]
          exact w _ _ m m2 (fin _ (p + 1) (v / many) ((g2.trans g4).trans .set) (at_set t1) (by omega) (Int.ediv_nonneg (by omega) (by omega))) ((g1.trans (g2.trans g4)).trans .set)
        · simp [evSs, evS, ev, evs, evV, evT, evTs, evp, evI, evO, evG, run_ok, run_bind, run_when, run_of, lk t1, binD, Lit.d, pow18, cmpD, truth, c1, ln, c2]
          exact late
      · simp [evSs, evS, ev, evs, evV, evT, evTs, evp, evI, evO, evG, run_ok, run_bind, run_when, run_of, lk t1, binD, Lit.d, pow18, cmpD, truth, c1]
        exact late
    refine run_cons ?_
    cases l with
    | nil => simp [evSs, evS, ev, evs, evV, evT, evTs, evp, evI, evO, evG, run_ok, run_bind, run_when, run_of, lk s3, Lit.d, newM, cmpD, en, truth, sizeLine_eq]; exact next _
    | cons l0 ls =>
      have hl0 : (0 : Int) < ((l0 :: ls).map D.int).length := by rw [List.length_map, List.length_cons]; omega
      have mm := Int.emod_nonneg p (by omega : ((((l0 :: ls).map D.int).length : Nat) : Int) ≠ 0)
      have mm2 := Int.emod_lt_of_pos p hl0
      obtain ⟨x, x1, x2⟩ := atI_mem mm mm2
      obtain ⟨v, _, rfl⟩ := List.mem_map.mp (List.mem_of_getElem? x2)
      have next := next v
      have ix : idxD (M2 ++ [MO.lst []]) (.ref c) (.int (p % (((l0 :: ls).map D.int).length : Nat))) = some (.int v) := idx_ref t2 x1
      have ln : biD (M2 ++ [MO.lst []]) .len [.ref c] = .ok (.int ((l0 :: ls).map D.int).length, M2 ++ [MO.lst []]) := by simp [biD, lenD, t2]
      generalize (l0 :: ls).map D.int = L at t2 s4 en hl0 ix ln ⊢
      simp [evSs, evS, ev, evs, evV, evT, evTs, evp, evI, evO, evG, run_ok, run_bind, run_when, run_of, lk s3, lk t1, Lit.d, newM, cmpD, en, truth, sizeLine_eq, ln, binD, hl0, ix]
      exact ⟨by omega, next⟩
end Lw

namespace Lw
open PySem L2 Cp
theorem pickL {P : D → Prop} {L : List D} {i : Int} (h0 : 0 ≤ i) (h1 : i < L.length) (h : ∀ x ∈ L, P x) : ∃ x, atI L i = some x ∧ P x := by
  obtain ⟨x, e1, e2⟩ := atI_mem h0 h1
  exact ⟨x, e1, h x (List.mem_of_getElem? e2)⟩
theorem pickI {P : Int → Prop} {l : List Int} {i : Int} (h0 : 0 ≤ i) (h1 : i < l.length) (h : ∀ x ∈ l, P x) : ∃ x, atI (l.map D.int) i = some (.int x) ∧ P x := by
  obtain ⟨x, e1, y, rfl, hy⟩ := pickL (P := fun x => ∃ y, x = .int y ∧ P y) (L := l.map D.int) h0 (by rw [List.length_map]; exact h1) fun x hx => by
    obtain ⟨y, hy, rfl⟩ := List.mem_map.mp hx
    exact ⟨y, rfl, h y hy⟩
  exact ⟨y, e1, hy⟩
theorem ixN_in {n : Nat} {i : Int} (h0 : 0 ≤ i) (h1 : i < n) : ixN n i = some i.toNat := by
  unfold ixN
  rw [if_pos h0, if_pos h1]
theorem rng_len (k : Int) : (rngD 0 k).length = k.toNat := by unfold rngD; rw [List.length_map, List.length_range, Int.sub_zero]
theorem rng_ok {k : Int} (h0 : 0 ≤ k) (h1 : k < 1000000) : rngOk 0 k = true := by unfold rngOk; simp; omega
/-- the body's end is the def's -/
theorem run_rt {r : RS} {Q : D × Mem → Prop} (h : Run r fun q => match q.1 with | .rt d => Q (d, q.2.2) | _ => False) : Run r fun q => match q.1 with | .rt d => Q (d, q.2.2) | .nx => Q (.non, q.2.2) | _ => False :=
  h.mono fun q hq => by
    obtain ⟨fl, s', M'⟩ := q
    cases fl <;> first | exact hq | exact hq.elim
theorem map_erase {α β : Type} {f : α → β} : ∀ (l : List α) (i : Nat), (l.map f).eraseIdx i = (l.eraseIdx i).map f
  | [], _ => rfl
  | _ :: _, 0 => rfl
  | _ :: l, i + 1 => by rw [List.map_cons, List.eraseIdx_cons_succ, List.eraseIdx_cons_succ, List.map_cons, map_erase l i]
/-! ### rows -/
structure Row where
  h : Int
  w : Bool
  c : Int
  deriving DecidableEq, Inhabited
def deedS (w : Bool) : Str := if w then "w" else "r"
def rowD (r : Row) : D := .tup [.int r.h, .str (deedS r.w), .int r.c]
def handsL : List Int := [9, 10, 0, 100, 99, 999]
def poolL : List Int := [0, 10, 9, 100, 2, 99, 1, 999]
theorem rows_run {n : Nat} {M : Mem} {a B : Nat} {mh mr : Int} {Q : D × Mem → Prop} (hf : Tape M a B) (hB : B ≤ 900000000) (m0 : 0 < mh) (m1 : mh ≤ 5) (r0 : 0 ≤ mr) (r1 : mr ≤ 40)
    (w : ∀ (rs : List Row) (M' : Mem), rs.length ≤ mr.toNat → (∀ r ∈ rs, r.h ∈ handsL.take mh.toNat ∧ r.c ∈ poolL) → Tape M' a (B + 150) → Gr a M M' → Q (.tup (rs.map rowD), M')) : Run (callF g (n + 2) 7 [.ref a, .int mh, .int mr] M) Q := by
  refine run_call [.ref a, .int mh, .int mr] (F := f7) rfl rfl ?_
  refine run_rt ?_
  show Run (evSs g (callF g (n + 1)) _ [some (.ref a), some (.int mh), some (.int mr), none, none, none, none, none, none, none, none] M) _
  have la := hf.lt
  refine run_cons ?_
  simp [evSs, evS, ev, evs, evV, evT, evTs, evp, evI, evO, evG, run_ok, run_bind, run_when, run_of, Lit.d, newM, sizeLine_eq]
  refine pick_run (hf.gw gwA) (by omega) m0 (by omega) fun k M1 k0 k1 hf1 g1 => ?_
  have e1 : M1[M.length]? = some (.lst (handsL.map D.int)) := g1 _ _ (by omega) at0
  have gg : Gr a M M1 := gwA.gr.trans g1
  have l1 := gg.len hf1
  obtain ⟨k, rfl⟩ := Int.eq_ofNat_of_zero_le k0
  have cut : cutL (handsL.map D.int) none (some (1 + (k : Int))) = (handsL.take (1 + k)).map D.int := by
    have : (1 + (k : Int)) = ((1 + k : Nat) : Int) := by omega
    unfold cutL
    rw [this, HT.sIx_none, HT.sIx_nat, List.drop_zero, Nat.sub_zero, List.map_take, Nat.min_eq_left (by show 1 + k ≤ 6; omega)]
  simp [slcD, e1, cut, binD, newM, setsE]
  rw [← List.map_take]
  -- the hands
  generalize hHL : handsL.take (1 + k) = HL
  have hm : ∀ x ∈ HL, x ∈ handsL.take mh.toNat := fun x hx => by
    subst hHL
    exact (List.take_subset_take_left _ (by omega)) hx
  have hl : 0 < HL.length ∧ HL.length ≤ 6 := by subst hHL; rw [List.length_take]; show 0 < min _ 6 ∧ min _ 6 ≤ 6; omega
  have a1 := at0 (M := M1) (x := MO.lst (HL.map D.int)) (L := [MO.lst []])
  have a2 := at1 (M := M1) (x := MO.lst (HL.map D.int)) (y := MO.lst []) (L := [])
  have hf2 : Tape (M1 ++ [MO.lst (HL.map D.int), MO.lst []]) a (B + 1) := hf1.gw gwA
  have g2 : Gr a M (M1 ++ [MO.lst (HL.map D.int), MO.lst []]) := gg.trans gwA.gr
  have hlt : M1.length + 2 = (M1 ++ [MO.lst (HL.map D.int), MO.lst []]).length := by rw [List.length_append]; rfl
  show Run (evSs g (callF g (n + 1)) f7_8 [some (.ref a), some (.int mh), some (.int mr), some (.ref M1.length), some (.ref (M1.length + 1)), none, none, none, none, none, none] _) _
  generalize M1 ++ [MO.lst (HL.map D.int), MO.lst []] = M2 at a1 a2 hf2 g2 hlt ⊢
  have i1 : M.length ≤ M1.length := l1
  generalize M1.length = i at a1 a2 hlt i1 ⊢
  clear e1 g1 gg hf1 l1 cut
  refine run_cons ?_
  simp [evSs, evS, ev, evs, evV, evT, evTs, evp, evI, evO, evG, run_ok, run_bind, run_when, run_of, Lit.d]
  refine pick_run hf2 (by omega) (by decide) (by decide) fun rate M3 q0 q1 hf3 g3 => ?_
  simp [binD]
  refine run_cons ?_
  simp [evSs, evS, ev, evs, evV, evT, evTs, evp, evI, evO, evG, run_ok, run_bind, run_when, run_of, Lit.d, newM, sizeLine_eq]
  have l3 := g3.len hf3
  have b1 : (M3 ++ [MO.lst (poolL.map D.int)])[i]? = some (.lst (HL.map D.int)) := gwA _ _ (g3 _ _ (by omega) a1)
  have b2 : (M3 ++ [MO.lst (poolL.map D.int)])[i + 1]? = some (.lst []) := gwA _ _ (g3 _ _ (by omega) a2)
  have b3 := at0 (M := M3) (x := MO.lst (poolL.map D.int)) (L := [])
  have hf4 : Tape (M3 ++ [MO.lst (poolL.map D.int)]) a (B + 2) := hf3.gw gwA
  have g4 : Gr a M (M3 ++ [MO.lst (poolL.map D.int)]) := (g2.trans g3).trans gwA.gr
  have hpl : (poolL.map D.int) = [.int 0, .int 10, .int 9, .int 100, .int 2, .int 99, .int 1, .int 999] := rfl
  rw [← hpl]
  have j1 : i + 2 ≤ M3.length := by omega
  have l4 : M3.length + 1 = (M3 ++ [MO.lst (poolL.map D.int)]).length := by rw [List.length_append]; rfl
  generalize M3 ++ [MO.lst (poolL.map D.int)] = M4 at b1 b2 b3 hf4 g4 l4 ⊢
  generalize M3.length = j at b3 j1 l4 ⊢
  show Run (evSs g (callF g (n + 1)) f7_6 [some (.ref a), some (.int mh), some (.int mr), some (.ref i), some (.ref (i + 1)), some (.int (1 + rate)), some (.ref j), none, none, none, none] M4) _
  clear hpl a1 a2 g3 hf3 hf2 g2 l3 hlt
  refine run_cons ?_
  simp [evSs, evS, ev, evs, evV, evT, evTs, evp, evI, evO, evG, run_ok, run_bind, run_when, run_of, Lit.d]
  refine pick_run hf4 (by omega) (by decide) (by decide) fun kc M5 c0 c1 hf5 g5 => ?_
  simp [binD, rng_ok (k := 1 + kc) (by omega) (by omega)]
  have lr := rng_len (1 + kc)
  obtain ⟨I, hI⟩ : ∃ I : Nat → Ev → Mem → Prop, ∀ t st M', I t st M' ↔ ∃ (v : Option D) (cl pl : List Int), st = [some (.ref a), some (.int mh), some (.int mr), some (.ref i), some (.ref (i + 1)), some (.int (1 + rate)), some (.ref j), v, none, none, none] ∧
      M'[i]? = some (.lst (HL.map D.int)) ∧ M'[i + 1]? = some (.lst (cl.map D.int)) ∧ M'[j]? = some (.lst (pl.map D.int)) ∧ cl.length = t ∧ pl.length + t = 8 ∧ (∀ x ∈ cl, x ∈ poolL) ∧ (∀ x ∈ pl, x ∈ poolL) ∧ Tape M' a (B + 3 + t) ∧ Gr a M M' := ⟨_, fun _ _ _ => Iff.rfl⟩
  refine run_for I (by omega) ((hI _ _ _).mpr ⟨none, [], poolL, rfl, g5 _ _ (by omega) b1, g5 _ _ (by omega) b2, g5 _ _ (by omega) b3, rfl, rfl, (fun _ h => by cases h), (fun _ h => h), hf5, g4.trans g5⟩) (fun t d st M' e hh => ?_) fun st M' hh => ?_
  · obtain ⟨v, cl, pl, e1, e2, e3, e4, e5, e6, e7, e8, e9, e10⟩ := (hI _ _ _).mp hh
    have ht := (List.getElem?_eq_some_iff.mp e).1
    subst e1
    have ln : biD M' .len [.ref j] = .ok (.int pl.length, M') := by simp [biD, lenD, e4]
    simp [evSs, evS, ev, evs, evV, evT, evTs, evp, evI, evO, evG, run_ok, run_bind, run_when, run_of, Lit.d, tyM, Me.ofL, e3, e4, ln]
    refine pick_run e9 (by omega) (by omega) (by omega) fun r M6 t0 t1 hf6 g6 => ?_
    obtain ⟨r, rfl⟩ := Int.eq_ofNat_of_zero_le t0
    have rl : r < pl.length := by omega
    have z1 := g6 _ _ (by omega) e2
    have z2 := g6 _ _ (by omega) e3
    have z3 := g6 _ _ (by omega) e4
    have ixr : ixN pl.length (r : Int) = some r := by rw [ixN_in t0 (by omega)]; rfl
    have lj := (List.getElem?_eq_some_iff.mp z3).1
    have lj2 := (List.getElem?_eq_some_iff.mp z2).1
    have y1 : (M6.set j (.lst ((pl.map D.int).eraseIdx r)))[i + 1]? = some (.lst (cl.map D.int)) := by rw [List.getElem?_set_ne (by omega)]; exact z2
    simp [meD, popD, z3, ixr, rl, appendD, y1, sizeLine_eq]
    refine ⟨by omega, (hI _ _ _).mpr ⟨some d, cl ++ [pl[r]], pl.eraseIdx r, rfl, ?_, ?_, ?_, by rw [List.length_append, e5]; rfl, by rw [List.length_eraseIdx_of_lt rl]; omega, ?_, ?_, ?_, ?_⟩⟩
    · rw [List.getElem?_set_ne (by omega), List.getElem?_set_ne (by omega)]; exact z1
    · rw [List.getElem?_set_self (by rw [List.length_set]; exact lj2), List.map_append]; rfl
    · rw [List.getElem?_set_ne (by omega), List.getElem?_set_self lj, map_erase]
    · intro x hx
      rcases List.mem_append.mp hx with hx | hx
      · exact e7 x hx
      · rw [List.mem_singleton.mp hx]; exact e8 _ (List.getElem_mem rl)
    · intro x hx
      exact e8 x (List.mem_of_mem_eraseIdx hx)
    · exact ((hf6.mono (by omega)).set (by omega)).set (by omega)
    · exact Gr.setN (Gr.setN (e10.trans g6) (by omega)) (by omega)
  · obtain ⟨v, cl, pl, e1, e2, e3, e4, e5, e6, e7, e8, e9, e10⟩ := (hI _ _ _).mp hh
    subst e1
    rw [lr] at e5 e6
    have cp : 0 < cl.length ∧ cl.length ≤ 8 := by omega
    show Run (evSs g (callF g (n + 1)) f7_5 _ M') _
    refine run_cons ?_
    simp [evSs, evS, ev, evs, evV, evT, evTs, evp, evI, evO, evG, run_ok, run_bind, run_when, run_of, Lit.d, newM, sizeLine_eq]
    refine run_cons ?_
    simp [evSs, evS, ev, evs, evV, evT, evTs, evp, evI, evO, evG, run_ok, run_bind, run_when, run_of, Lit.d, binD]
    have u0 := at0 (M := M') (x := MO.lst []) (L := [])
    have f1 : Tape (M' ++ [MO.lst []]) a (B + 8) := (e9.mono (by omega)).gw gwA
    have g6 : Gr a M (M' ++ [MO.lst []]) := e10.trans gwA.gr
    have u1 := gwA (L := [MO.lst []]) _ _ e2
    have u2 := gwA (L := [MO.lst []]) _ _ e3
    have lj := (List.getElem?_eq_some_iff.mp e3).1
    have lM : M.length ≤ M'.length := by omega
    generalize M' ++ [MO.lst []] = M6 at u0 f1 g6 u1 u2 ⊢
    generalize M'.length = f at u0 lj lM ⊢
    clear e2 e3 e4 e9 e10 hI hh
    refine pick_run f1 (by omega) (by omega) (by omega) fun kr M7 t0 t1 hf7 g7 => ?_
    simp [rng_ok t0 (by omega)]
    have lr2 := rng_len kr
    obtain ⟨J, hJ⟩ : ∃ J : Nat → Ev → Mem → Prop, ∀ t st M', J t st M' ↔ ∃ (v x y : Option D) (rs : List Row), st = [some (.ref a), some (.int mh), some (.int mr), some (.ref i), some (.ref (i + 1)), some (.int (1 + rate)), some (.ref j), v, some (.ref f), x, y] ∧
        M'[i]? = some (.lst (HL.map D.int)) ∧ M'[i + 1]? = some (.lst (cl.map D.int)) ∧ M'[f]? = some (.lst (rs.map rowD)) ∧ rs.length = t ∧ (∀ r ∈ rs, r.h ∈ handsL.take mh.toNat ∧ r.c ∈ poolL) ∧ Tape M' a (B + 9 + 3 * t) ∧ Gr a M M' := ⟨_, fun _ _ _ => Iff.rfl⟩
    refine run_for J (by omega) ((hJ _ _ _).mpr ⟨v, none, none, [], rfl, g7 _ _ (by omega) u1, g7 _ _ (by omega) u2, g7 _ _ (by omega) u0, rfl, (fun _ h => by cases h), hf7, g6.trans g7⟩) (fun t d st M8 e hh => ?_) fun st M8 hh => ?_
    · obtain ⟨v, x, y, rs, e1, e2, e3, e4, e5, e6, e9, e10⟩ := (hJ _ _ _).mp hh
      have ht := (List.getElem?_eq_some_iff.mp e).1
      subst e1
      have tail : ∀ (wr : Bool) (M9 : Mem), Tape M9 a (B + 9 + 3 * t + 1) → Gr a M8 M9 → Run (evSs g (callF g (n + 1)) f7_2 [some (.ref a), some (.int mh), some (.int mr), some (.ref i), some (.ref (i + 1)), some (.int (1 + rate)), some (.ref j), some d, some (.ref f), some (.str (deedS wr)), y] M9) fun q => match q.1 with
          | .nx => J (t + 1) q.2.1 q.2.2
          | .ct => J (t + 1) q.2.1 q.2.2
          | .bk => Run (evSs g (callF g (n + 1)) f7_3 q.2.1 q.2.2) fun q => match q.1 with | .rt d => Q (d, q.2.2) | _ => False
          | .rt d => Q (d, q.2.2) := by
        intro wr M9 hf9 g9
        refine run_cons ?_
        have z1 := g9 _ _ (by omega) e2
        have ln : biD M9 .len [.ref i] = .ok (.int HL.length, M9) := by simp [biD, lenD, z1]
        simp [evSs, evS, ev, evs, evV, evT, evTs, evp, evI, evO, evG, run_ok, run_bind, run_when, run_of, Lit.d, ln]
        refine pick_run hf9 (by omega) (by omega) (by omega) fun rh M10 s0 s1 hf10 g10 => ?_
        obtain ⟨hv, hv1, hv2⟩ := pickI (P := fun x => x ∈ HL) s0 s1 fun x hx => hx
        have z2 := g10 _ _ (by omega) z1
        have ix := idx_ref z2 hv1
        simp [ix]
        refine run_cons ?_
        have z3 := g10 _ _ (by omega) (g9 _ _ (by omega) e3)
        have z4 := g10 _ _ (by omega) (g9 _ _ (by omega) e4)
        have ln : biD M10 .len [.ref (i + 1)] = .ok (.int cl.length, M10) := by simp [biD, lenD, z3]
        simp [evSs, evS, ev, evs, evV, evT, evTs, evp, evI, evO, evG, run_ok, run_bind, run_when, run_of, Lit.d, ln, tyM, Me.ofL, z4]
        refine pick_run hf10 (by omega) (by omega) (by omega) fun rc M11 v0 v1 hf11 g11 => ?_
        obtain ⟨cv, cv1, cv2⟩ := pickI (P := fun x => x ∈ poolL) v0 v1 e7
        have y3 := g11 _ _ (by omega) z3
        have y4 := g11 _ _ (by omega) z4
        have ix := idx_ref y3 cv1
        simp [ix, sizeLine_eq, meD, appendD, y4]
        refine ⟨by omega, (hJ _ _ _).mpr ⟨_, _, _, rs ++ [⟨hv, wr, cv⟩], rfl, ?_, ?_, ?_, by rw [List.length_append, e5]; rfl, ?_, ?_, ?_⟩⟩
        · rw [List.getElem?_set_ne (by omega)]; exact g11 _ _ (by omega) z2
        · rw [List.getElem?_set_ne (by omega)]; exact y3
        · rw [List.getElem?_set_self (List.getElem?_eq_some_iff.mp y4).1, List.map_append]; rfl
        · intro r hr
          rcases List.mem_append.mp hr with hr | hr
          · exact e6 r hr
          · rw [List.mem_singleton.mp hr]; exact ⟨hm _ hv2, cv2⟩
        · exact (hf11.mono (by omega)).set (by omega)
        · exact Gr.setN (((e10.trans g9).trans g10).trans g11) (by omega)
      simp [evSs, evS, ev, evs, evV, evT, evTs, evp, evI, evO, evG, run_ok, run_bind, run_when, run_of, Lit.d]
      refine pick_run e9 (by omega) (by decide) (by decide) fun r5 M9 p0 p1 hf9 g9 => ?_
      by_cases h : r5 < 1 + rate
      · simp [cmpD, truth, h]
        exact tail true M9 hf9 g9
      · simp [cmpD, truth, h]
        exact tail false M9 hf9 g9
    · obtain ⟨v, x, y, rs, e1, e2, e3, e4, e5, e6, e9, e10⟩ := (hJ _ _ _).mp hh
      subst e1
      rw [lr2] at e5 e9
      show Run (evSs g (callF g (n + 1)) f7_3 _ M8) _
      refine run_cons ?_
      simp [evSs, evS, ev, evs, evV, evT, evTs, evp, evI, evO, evG, run_ok, run_bind, run_when, run_of, biD, itemsD, e4]
      exact w rs M8 (by omega) e6 (e9.mono (by omega)) e10
end Lw

namespace Lw
open PySem L2 Cp
theorem intsD_map (ns : List Int) : intsD (ns.map D.int) = some ns := by
  induction ns with
  | nil => rfl
  | cons y ys ih => show (intsD (ys.map D.int)).map _ = _; rw [ih]; rfl
theorem setI_of {a : List Int} {ns : List Int} (h1 : a.Pairwise (· < ·)) (h2 : ∀ k, k ∈ a ↔ k ∈ ns) : a = setI ns :=
  rise_unique (r := fun x y : Int => x < y) (fun x => Int.lt_irrefl x) (fun x y a b => by omega) h1 (setI_lt ns) fun k => by rw [setI_mem]; exact h2 k
theorem sortI_mem {ns : List Int} {k : Int} : k ∈ sortI ns ↔ k ∈ ns := (sortI_perm ns).mem_iff
theorem sort_set {ns ms : List Int} (nd : ns.Nodup) (h : ∀ k, k ∈ ns ↔ k ∈ ms) : sortI ns = setI ms :=
  setI_of (lt_of_le_nodup _ (sortI_le ns) ((sortI_perm ns).nodup_iff.mpr nd)) fun k => by rw [sortI_mem]; exact h k
/-- the hands, rising -/
def hands (rs : List Row) : List Int := setI (rs.map (·.h))
theorem hands_mem {rs : List Row} {k : Int} : k ∈ hands rs ↔ ∃ r ∈ rs, r.h = k := by
  unfold hands
  rw [setI_mem, List.mem_map]
theorem hands_lt (rs : List Row) : (hands rs).Pairwise (· < ·) := setI_lt _
theorem flat_ints (ns : List Int) : (ns.map D.int).all flatD = true := by rw [List.all_map]; exact List.all_eq_true.mpr fun _ _ => rfl
theorem inF_ints {k : Int} : ∀ {ns : List Int}, inF (.int k) (ns.map D.int) = decide (k ∈ ns)
  | [] => rfl
  | n :: ns => by
    show ((n == k) || inF (.int k) (ns.map D.int)) = _
    rw [inF_ints]
    by_cases e : n = k
    · subst e; simp
    · have e' : (n == k) = false := beq_eq_false_iff_ne.mpr e
      rw [e', Bool.false_or]
      refine decide_eq_decide.mpr ⟨List.mem_cons_of_mem _, fun h => ?_⟩
      · rcases List.mem_cons.mp h with h | h
        · exact absurd h.symm e
        · exact h
theorem in_ints {M : Mem} {i : Nat} {ns : List Int} {k : Int} (h : M[i]? = some (.lst (ns.map D.int))) : inD M (.int k) (.ref i) = some (decide (k ∈ ns)) := by
  rw [inD_lst h (by rw [flat_ints]; rfl), inF_ints]
/-- one turn -/
theorem hands_turn {n : Nat} {M2 : Mem} {i : Nat} {d0 : D} {x y z : Option D} {l : List Int} {r : Row} {Q : Fl × Ev × Mem → Prop} (e2 : M2[i]? = some (.lst (l.map D.int))) (hl : l.length < 100)
    (w1 : r.h ∈ l → Q (.nx, [some d0, some (.ref i), some (.int r.h), some (.str (deedS r.w)), some (.int r.c)], M2))
    (w2 : r.h ∉ l → Q (.nx, [some d0, some (.ref i), some (.int r.h), some (.str (deedS r.w)), some (.int r.c)], M2.set i (.lst (l.map D.int ++ [.int r.h])))) :
    Run (evSs g (callF g n) (.cons (.iff (.val (.cmp .nmem (.var 2) (.var 1))) (.cons (.expr (.meth .append (.var 1) (.cons (.var 2) .nil))) .nil) .nil) .nil) [some d0, some (.ref i), some (.int r.h), some (.str (deedS r.w)), some (.int r.c)] M2) Q := by
  by_cases hm : r.h ∈ l
  · simp [evSs, evS, ev, evs, evV, evT, evTs, evp, evI, evO, evG, run_ok, run_bind, run_when, run_of, cmpD, in_ints e2, truth, hm]
    exact w1 hm
  · simp [evSs, evS, ev, evs, evV, evT, evTs, evp, evI, evO, evG, run_ok, run_bind, run_when, run_of, cmpD, in_ints e2, truth, hm, tyM, Me.ofL, e2, meD, appendD, sizeLine_eq]
    exact ⟨by omega, w2 hm⟩
theorem hands_run {n : Nat} {M : Mem} {rs : List Row} {Q : D × Mem → Prop} (hl : rs.length ≤ 60)
    (w : ∀ i M', M'[i]? = some (.lst ((hands rs).map D.int)) → Gw M M' → Q (.ref i, M')) : Run (callF g (n + 1) 8 [.tup (rs.map rowD)] M) Q := by
  refine run_call [.tup (rs.map rowD)] (F := f8) rfl rfl ?_
  refine run_rt ?_
  have ll : (rs.map rowD).length = rs.length := List.length_map ..
  have at_ : ∀ t d, (rs.map rowD)[t]? = some d → ∃ r, rs[t]? = some r ∧ d = rowD r := fun t d e => by
    rw [List.getElem?_map] at e
    obtain ⟨r, hr, rfl⟩ := Option.map_eq_some_iff.mp e
    exact ⟨r, hr, rfl⟩
  generalize rs.map rowD = ds at ll at_ ⊢
  show Run (evSs g (callF g n) (.cons (.asg (.nm 1) (.lst .nil)) f8_2) [some (.tup ds), none, none, none, none] M) _
  refine run_cons ?_
  simp [evSs, evS, ev, evs, evV, evT, evTs, evp, evI, evO, evG, run_ok, run_bind, run_when, run_of, newM, sizeLine_eq]
  have a0 := at0 (M := M) (x := MO.lst []) (L := [])
  have g0 : Gw M (M ++ [MO.lst []]) := .new
  generalize hM1 : M ++ [MO.lst []] = M1 at a0 g0 ⊢
  refine run_cons ?_
  refine run_fr ?_
  refine run_ok.mpr ?_
  obtain ⟨I, hI⟩ : ∃ I : Nat → Ev → Mem → Prop, ∀ t st M', I t st M' ↔ ∃ (x y z : Option D) (l : List Int), st = [some (.tup ds), some (.ref M.length), x, y, z] ∧ M'[M.length]? = some (.lst (l.map D.int)) ∧ l.Nodup ∧ l.length ≤ t ∧
      (∀ k, k ∈ l ↔ k ∈ (rs.take t).map (·.h)) ∧ Gw M M' := ⟨_, fun _ _ _ => Iff.rfl⟩
  refine run_for I (by omega) ((hI _ _ _).mpr ⟨none, none, none, [], rfl, a0, .nil, Nat.le_refl _, fun k => by simp, g0⟩) (fun t d st M2 e hh => ?_) fun st M2 hh => ?_
  · obtain ⟨x, y, z, l, rfl, e2, e3, e4, e5, e6⟩ := (hI _ _ _).mp hh
    obtain ⟨r, hr, rfl⟩ := at_ t d e
    have ht := (List.getElem?_eq_some_iff.mp hr).1
    have step : (rs.take (t + 1)).map (·.h) = (rs.take t).map (·.h) ++ [r.h] := by
      rw [List.take_add_one, hr, List.map_append]; rfl
    show Run (R.when ([D.int r.h, D.str (deedS r.w), D.int r.c].length = [2, 3, 4].length) (R.ok (setsE [2, 3, 4] [D.int r.h, D.str (deedS r.w), D.int r.c] [some (.tup ds), some (.ref M.length), x, y, z], M2))) _
    rw [run_when]
    refine ⟨rfl, run_ok.mpr ?_⟩
    refine hands_turn (n := n) (x := x) (y := y) (z := z) e2 (by omega) (fun hm => ?_) fun hm => ?_
    · refine (hI _ _ _).mpr ⟨_, _, _, l, rfl, e2, e3, by omega, fun k => ?_, e6⟩
      rw [step, List.mem_append, ← e5 k, List.mem_singleton]
      exact ⟨.inl, fun h => h.elim id fun e => e ▸ hm⟩
    · refine (hI _ _ _).mpr ⟨_, _, _, l ++ [r.h], rfl, ?_, ?_, by rw [List.length_append, List.length_singleton]; omega, fun k => ?_, fun i o h => ?_⟩
      · rw [List.getElem?_set_self (List.getElem?_eq_some_iff.mp e2).1, List.map_append]; rfl
      · rw [List.nodup_append]
        refine ⟨e3, by simp, fun a ha b hb => ?_⟩
        rw [List.mem_singleton.mp hb]
        exact fun z => hm (z ▸ ha)
      · rw [step, List.mem_append, List.mem_append, e5 k]
      · have := (List.getElem?_eq_some_iff.mp h).1
        rw [List.getElem?_set_ne (by omega)]
        exact e6 i o h
  · obtain ⟨x, y, z, l, rfl, e2, e3, e4, e5, e6⟩ := (hI _ _ _).mp hh
    rw [ll] at e4 e5
    rw [List.take_length] at e5
    have so : sortI l = hands rs := sort_set e3 e5
    have so2 := sorted_ok e2 (intsD_map l) (by omega)
    rw [so] at so2
    show Run (evSs g (callF g n) (.cons (.ret (.bi .sorted (.cons (.var 1) .nil))) .nil) [some (.tup ds), some (.ref M.length), x, y, z] M2) _
    simp only [evSs, evS, ev, evs, evV, evT, evTs, evp, evI, evO, evG, run_ok, run_bind, run_when, run_of, List.getElem?_cons_succ, List.getElem?_cons_zero, so2, newM]
    exact w _ _ at0 (e6.trans gwA)
theorem hands_of_run {n : Nat} {M : Mem} {rs : List Row} {Q : D × Mem → Prop} (hl : rs.length ≤ 4000)
    (w : ∀ M', Gw M M' → Q (.tup ((hands rs).map D.int), M')) : Run (callF g (n + 1) 3 [.tup (rs.map rowD)] M) Q := by
  refine run_call [.tup (rs.map rowD)] (F := f3) rfl rfl ?_
  refine run_rt ?_
  show Run (evSs g (callF g n) _ [some (.tup (rs.map rowD)), none, none, none] M) _
  refine run_cons ?_
  simp [evSs, evS, ev, evs, evV, evT, evTs, evp, evI, evO, evG, run_ok, run_bind, run_when, run_of, wipeE]
  refine run_compP (xs := rs.map rowD) (fun d => match d with | .tup (h :: _) => some h | _ => none) (by rw [List.length_map]; omega) (fun d hd => ?_) ?_
  · obtain ⟨r, _, rfl⟩ := List.mem_map.mp hd
    simp [rowD, setsE]
  · have e : (rs.map rowD).filterMap (fun d => match d with | .tup (h :: _) => some h | _ => none) = (rs.map (·.h)).map D.int := by
      rw [List.filterMap_map, List.map_map, ← List.filterMap_eq_map]; rfl
    rw [e]
    have l2 : (rs.map (·.h)).length = rs.length := List.length_map ..
    have sd : setD ((rs.map (·.h)).map D.int) = some ((hands rs).map D.int) := by unfold setD; rw [intsD_map]; rfl
    have l3 : rs.length < 4096 := by omega
    rw [List.length_map, l2]
    refine ⟨_, sd, l3, ?_⟩
    simp [newM, biD, itemsD]
    exact w _ gwA
def touchB (r s : Row) : Bool := !decide (r.h = s.h) && (decide (r.c = s.c) && (r.w || s.w))
theorem w_in {M : Mem} (a b : Bool) : inD M (.str "w") (.tup [.str (deedS a), .str (deedS b)]) = some (a || b) := by
  rw [inD_tup (by cases a <;> cases b <;> rfl)]
  clear M
  cases a <;> cases b <;> decide +kernel
theorem touch_run {n : Nat} {M : Mem} {r s : Row} {Q : D × Mem → Prop} (w : Q (.bl (touchB r s), M)) : Run (callF g (n + 1) 4 [rowD r, rowD s] M) Q := by
  refine run_call [rowD r, rowD s] (F := f4) rfl rfl ?_
  refine run_rt ?_
  show Run (evSs g (callF g n) _ [some (rowD r), some (rowD s)] M) _
  refine run_cons ?_
  have i0 : ∀ r : Row, idxD M (rowD r) (.int 0) = some (.int r.h) := fun _ => rfl
  have i1 : ∀ r : Row, idxD M (rowD r) (.int 1) = some (.str (deedS r.w)) := fun _ => rfl
  have i2 : ∀ r : Row, idxD M (rowD r) (.int 2) = some (.int r.c) := fun _ => rfl
  unfold touchB at w
  by_cases h1 : r.h = s.h
  · simp [evSs, evS, ev, evs, evV, evT, evTs, evp, evI, evO, evG, run_ok, run_bind, run_when, run_of, Lit.d, i0, cmpD, eq_int, h1]
    simpa [h1] using w
  · by_cases h2 : r.c = s.c
    · simp [evSs, evS, ev, evs, evV, evT, evTs, evp, evI, evO, evG, run_ok, run_bind, run_when, run_of, Lit.d, i0, i1, i2, cmpD, eq_int, h1, h2, sizeLine_eq, w_in]
      cases hr : r.w <;> cases hs : s.w <;> simp [h1, h2, hr, hs] at w ⊢ <;> exact w
    · have h3 : (r.c == s.c) = false := beq_eq_false_iff_ne.mpr h2
      simp [evSs, evS, ev, evs, evV, evT, evTs, evp, evI, evO, evG, run_ok, run_bind, run_when, run_of, Lit.d, i0, i2, cmpD, eq_int, h1, h3]
      simpa [h1, h2] using w
end Lw

namespace Lw
open PySem L2 Cp
theorem kit_int : ∀ u ∈ ["NoneType", "bool", "int", "str", "tuple", "list", "dict"], kitB u "int" = some (u == "bool" || u == "int") := by decide +kernel
theorem kit_bool : ∀ u ∈ ["NoneType", "bool", "int", "str", "tuple", "list", "dict"], kitB u "bool" = some (u == "bool") := by decide +kernel
theorem kit_str : ∀ u ∈ ["NoneType", "bool", "int", "str", "tuple", "list", "dict"], kitB u "str" = some (u == "str") := by decide +kernel
theorem kit_tup : ∀ u ∈ ["NoneType", "bool", "int", "str", "tuple", "list", "dict"], kitB u "tuple" = some (u == "tuple") := by decide +kernel
/-- what isinstance tells -/
def isInt : D → Bool | .int _ => true | .bl _ => true | _ => false
def isBl : D → Bool | .bl _ => true | _ => false
def isStr : D → Bool | .str _ => true | _ => false
def isTup : D → Bool | .tup _ => true | _ => false
theorem ty_all {M : Mem} {d : D} {c h lb : Nat} (k : Dat M d c h lb) : ∃ u, tyD M d = some u ∧ kitB u "int" = some (isInt d) ∧ kitB u "bool" = some (isBl d) ∧ kitB u "str" = some (isStr d) ∧ kitB u "tuple" = some (isTup d) := by
  obtain ⟨p, k, _⟩ := k
  have go : ∀ u ∈ ["NoneType", "bool", "int", "str", "tuple", "list", "dict"], tyD M d = some u → (u == "bool" || u == "int") = isInt d → (u == "bool") = isBl d → (u == "str") = isStr d → (u == "tuple") = isTup d →
      ∃ u, tyD M d = some u ∧ kitB u "int" = some (isInt d) ∧ kitB u "bool" = some (isBl d) ∧ kitB u "str" = some (isStr d) ∧ kitB u "tuple" = some (isTup d) := fun u hu e a b c f =>
    ⟨u, e, by rw [kit_int u hu, a], by rw [kit_bool u hu, b], by rw [kit_str u hu, c], by rw [kit_tup u hu, f]⟩
  cases k with
  | non => exact go "NoneType" (by decide) rfl rfl rfl rfl rfl
  | bl b => exact go "bool" (by decide) rfl rfl rfl rfl rfl
  | int b => exact go "int" (by decide) rfl rfl rfl rfl rfl
  | str b => exact go "str" (by decide) rfl rfl rfl rfl rfl
  | tup b => exact go "tuple" (by decide) rfl rfl rfl rfl rfl
  | frl b => exact go "list" (by decide) rfl rfl rfl rfl rfl
  | lst e b => exact go "list" (by decide) (by show (match M[_]? with | some (MO.lst _) => some "list" | some (MO.dct _) => some "dict" | none => none) = _; rw [e]) rfl rfl rfl rfl
def isNum : D → Bool | .int _ => true | _ => false
theorem num_of (d : D) : (isInt d && !isBl d) = isNum d := by cases d <;> rfl
theorem num_run {n : Nat} {M : Mem} {d : D} {c h lb : Nat} {Q : D × Mem → Prop} (k : Dat M d c h lb) (w : Q (.bl (isNum d), M)) : Run (callF g (n + 1) 0 [d] M) Q := by
  obtain ⟨u, hu, h1, h2, h3, h4⟩ := ty_all k
  refine run_call [d] (F := f0) rfl rfl ?_
  have e := num_of d
  cases a : isInt d <;> cases b : isBl d <;> rw [a, b] at e <;> simp [f0, evSs, evS, ev, evs, evV, evT, evTs, evp, evI, evO, evG, run_ok, run_bind, run_when, run_of, hu, h1, h2, a, b] <;> rw [← e] at w <;> exact w

/-! ### rows of any data -/
def isCell : D → Bool | .int i => decide (0 ≤ i) | _ => false
def isDeed : D → Bool | .str x => ((Str.ofString "r" == x) || (Str.ofString "w" == x)) | _ => false
def isRow : D → Bool | .tup [a, b, c] => (isCell a && isCell c) && isDeed b | _ => false
def isW : D → Bool | .tup xs => xs.all isRow | _ => false
theorem ok_text (s : String) : PyData.strOk (Str.ofString s) = true := by
  rw [Str.ofString_eq_toList]
  unfold PyData.strOk
  rw [Array.all_eq_true']
  intro c hc
  have hc : c ∈ s.toList.map Char.toNat := by simpa using hc
  obtain ⟨x, _, rfl⟩ := List.mem_map.mp hc
  have := x.valid
  have : x.toNat < 0x110000 := by
    rcases this with h | h
    · exact Nat.lt_trans h (by decide)
    · exact h.2
  exact decide_eq_true this
theorem deed_in {M : Mem} {d : D} {c h lb : Nat} (k : Dat M d c h lb) (hh : h ≤ 64) : inD M d (.tup [.str "r", .str "w"]) = some (isDeed d) := by
  have hs : SeqAt.shaped (.tuple [.str (Str.ofString "r"), .str (Str.ofString "w")]) = true := shaped_of (by decide +kernel) (by decide)
  have sq : PyAll M [.str (Str.ofString "r"), .str (Str.ofString "w")] [.str (Str.ofString "r"), .str (Str.ofString "w")] := .cons (.str _) (.cons (.str _) .nil)
  have k0 := k
  obtain ⟨p, k, _, k3, k4, _⟩ := k
  have sp := shaped_of k3 (Nat.le_trans k4 hh)
  cases k with
  | tup q => rw [inD_tupD rfl (.tup q) sq sp hs]; rfl
  | lst e q => rw [inD_tupD rfl (.lst e q) sq sp hs]; rfl
  | frl q => rw [inD_tupD rfl (.frl q) sq sp hs]; rfl
  | str x => rw [inD_tup rfl]; show some (_ || (_ || false)) = _; rw [Bool.or_false]; rfl
  | _ => rw [inD_tup rfl]; rfl
theorem row_run {n : Nat} {M : Mem} {d : D} {c h lb : Nat} {Q : D × Mem → Prop} (k : Dat M d c h lb) (hh : h ≤ 64) (w : Q (.bl (isRow d), M)) : Run (callF g (n + 2) 1 [d] M) Q := by
  obtain ⟨u, hu, h1, h2, h3, h4⟩ := ty_all k
  refine run_call [d] (F := f1) rfl rfl ?_
  refine run_rt ?_
  show Run (evSs g (callF g (n + 1)) (.cons (.iff (.bool false (.cons (.not (.val (.isi (.var 0) "tuple"))) (.cons (.val (.cmp .ne (.bi .len (.cons (.var 0) .nil)) (.lit (.int 3)))) .nil))) (.cons (.ret (.lit (.bl false))) .nil) .nil) f1_3) [some d, none, none, none] M) _
  refine run_cons ?_
  have other : ∀ xs : List D, xs.length ≠ 3 → isRow (.tup xs) = false := fun xs hx => by
    match xs, hx with
    | [], _ => rfl
    | [_], _ => rfl
    | [_, _], _ => rfl
    | [_, _, _], hx => exact absurd rfl hx
    | _ :: _ :: _ :: _ :: _, _ => rfl
  cases d with
  | tup xs =>
    have e4 : isTup (.tup xs) = true := rfl
    by_cases hx : xs.length = 3
    · match xs, hx with
      | [a, b, e], _ =>
        have kl := k.tupL
        have ka := kl.mem a (by simp)
        have kb := kl.mem b (by simp)
        have kc := kl.mem e (by simp)
        simp [evSs, evS, ev, evs, evV, evT, evTs, evp, evI, evO, evG, run_ok, run_bind, run_when, run_of, hu, h4, e4, truth, Lit.d, biD, lenD, cmpD, eq_int]
        refine run_cons ?_
        simp [evSs, evS, ev, evs, evV, evT, evTs, evp, evI, evO, evG, run_ok, run_bind, run_when, run_of, setsE]
        refine run_cons ?_
        obtain ⟨ub, hub, _, _, b3, _⟩ := ty_all kb
        have wb := deed_in kb hh
        have e0 : isRow (.tup [a, b, e]) = ((isCell a && isCell e) && isDeed b) := rfl
        rw [e0] at w
        clear e0 other hu h4 e4 k kl
        have fa : ∀ x : D, isNum x = false → isCell x = false := fun x hx => by cases x <;> first | rfl | cases hx
        simp [evSs, evS, ev, evs, evV, evT, evTs, evp, evI, evO, evG, run_ok, run_bind, run_when, run_of]
        refine num_run ka ?_
        cases na : isNum a with
        | false =>
          rw [fa a na] at w
          simp [truth, evSs, evS, ev, evs, evV, evT, evTs, evp, evI, evO, evG, run_ok, run_bind, run_when, run_of, Lit.d]
          exact w
        | true =>
          simp [truth]
          refine num_run kc ?_
          cases nc : isNum e with
          | false =>
            rw [fa e nc, Bool.and_false] at w
            simp [truth, evSs, evS, ev, evs, evV, evT, evTs, evp, evI, evO, evG, run_ok, run_bind, run_when, run_of, Lit.d]
            exact w
          | true =>
            cases a with
            | int i =>
              cases e with
              | int j =>
                by_cases hij : 0 ≤ i ∧ 0 ≤ j
                · have hm : ¬ ((if j < i then j else i) < 0) := by split <;> omega
                  simp [truth, evSs, evS, ev, evs, evV, evT, evTs, evp, evI, evO, evG, run_ok, run_bind, run_when, run_of, Lit.d, biD, cmpD, hm]
                  have w : Q (D.bl (isDeed b), M) := by simpa [isCell, hij.1, hij.2] using w
                  refine run_cons ?_
                  cases sb : isStr b with
                  | false =>
                    have : isDeed b = false := by cases b <;> first | rfl | cases sb
                    rw [this] at w
                    simp [evSs, evS, ev, evs, evV, evT, evTs, evp, evI, evO, evG, run_ok, run_bind, run_when, run_of, hub, b3, sb]
                    exact w
                  | true =>
                    have gc : g.con[0]? = some (Str.ofString "DEEDS", D.tup [.str (Str.ofString "r"), .str (Str.ofString "w")]) := rfl
                    simp [evSs, evS, ev, evs, evV, evT, evTs, evp, evI, evO, evG, run_ok, run_bind, run_when, run_of, hub, b3, sb, gc, cmpD, wb]
                    cases hb : isDeed b <;> simp [hb] at w ⊢ <;> exact w
                · have hm : (if j < i then j else i) < 0 := by split <;> omega
                  simp [truth, evSs, evS, ev, evs, evV, evT, evTs, evp, evI, evO, evG, run_ok, run_bind, run_when, run_of, Lit.d, biD, cmpD, hm]
                  have : (isCell (.int i) && isCell (.int j)) = false := by
                    show (decide (0 ≤ i) && decide (0 ≤ j)) = false
                    rw [← Bool.decide_and, decide_eq_false hij]
                  rw [this, Bool.false_and] at w
                  exact w
              | _ => cases nc
            | _ => cases na
    · have hx2 : ((xs.length : Int) == 3) = false := beq_eq_false_iff_ne.mpr (by omega)
      rw [other xs hx] at w
      simp [evSs, evS, ev, evs, evV, evT, evTs, evp, evI, evO, evG, run_ok, run_bind, run_when, run_of, hu, h4, e4, truth, Lit.d, biD, lenD, cmpD, eq_int, hx2]
      exact w
  | _ =>
    simp [evSs, evS, ev, evs, evV, evT, evTs, evp, evI, evO, evG, run_ok, run_bind, run_when, run_of, hu, h4, isTup, truth, Lit.d]
    exact w
theorem weaving_run {n : Nat} {M : Mem} {d : D} {c h lb : Nat} {Q : D × Mem → Prop} (k : Dat M d c h lb) (hc : c ≤ 16777216) (hh : h ≤ 64) (w : ∀ M', Gw M M' → Q (.bl (isW d), M')) : Run (callF g (n + 3) 2 [d] M) Q := by
  obtain ⟨u, hu, h1, h2, h3, h4⟩ := ty_all k
  refine run_call [d] (F := f2) rfl rfl ?_
  refine run_rt ?_
  show Run (evSs g (callF g (n + 2)) (.cons (.ret (.bool true (.cons (.isi (.var 0) "tuple") (.cons (.bi .all (.cons (.lc (.call 1 (.cons (.var 1) .nil)) (.nm 1) (.ex (.var 0)) .nil [1]) .nil)) .nil)))) .nil) [some d, none] M) _
  cases d with
  | tup xs =>
    have e4 : isTup (.tup xs) = true := rfl
    have kl := k.tupL
    have ln := kl.len
    simp [evSs, evS, ev, evs, evV, evT, evTs, evp, evI, evO, evG, run_ok, run_bind, run_when, run_of, hu, h4, e4]
    refine run_compP (xs := xs) (fun d => some (.bl (isRow d))) (by omega) (fun y hy => ?_) ?_
    · simp [wipeE]
      exact row_run (kl.mem y hy) hh (by simp)
    · have e : xs.filterMap (fun d => some (D.bl (isRow d))) = (xs.map isRow).map D.bl := by
        rw [List.map_map, ← List.filterMap_eq_map]; rfl
      have ea : (xs.map isRow).all id = isW (.tup xs) := by rw [List.all_map]; rfl
      rw [e]
      simp only [newM, run_ok, biD, listD, at_new, run_of]
      refine ⟨_, rfl, _, boolsD_map _, ?_⟩
      rw [ea]
      have w := w _ (gwA (L := [MO.lst ((xs.map isRow).map D.bl)]))
      generalize M ++ [MO.lst ((xs.map isRow).map D.bl)] = M2 at w ⊢
      cases hw : isW (.tup xs) <;> rw [hw] at w <;> simp <;> exact w
  | _ =>
    simp [evSs, evS, ev, evs, evV, evT, evTs, evp, evI, evO, evG, run_ok, run_bind, run_when, run_of, hu, h4, isTup]
    exact w M .refl
/-! ### the law's own look -/
/-- one number -/
theorem own_num {n : Nat} {M : Mem} {d : D} {c h lb : Nat} {x y : Option D} {Q : Fl × Ev × Mem → Prop} (k : Dat M d c h lb) (w : Q (if isCell d = true then .nx else .rt (.bl false), [x, y, some d], M)) :
    Run (evSs g (callF g n) (.cons (.iff (.bool false (.cons (.not (.val (.isi (.var 2) "int"))) (.cons (.val (.isi (.var 2) "bool")) (.cons (.val (.cmp .lt (.var 2) (.lit (.int 0)))) .nil)))) (.cons (.ret (.lit (.bl false))) .nil) .nil) .nil) [x, y, some d] M) Q := by
  obtain ⟨u, hu, h1, h2, h3, h4⟩ := ty_all k
  cases d with
  | int i =>
    by_cases hi : 0 ≤ i
    · have hn : ¬ i < 0 := by omega
      simp [evSs, evS, ev, evs, evV, evT, evTs, evp, evI, evO, evG, run_ok, run_bind, run_when, run_of, hu, h1, h2, isInt, isBl, truth, cmpD, Lit.d, hn]
      simpa [isCell, hi] using w
    · have hn : i < 0 := by omega
      simp [evSs, evS, ev, evs, evV, evT, evTs, evp, evI, evO, evG, run_ok, run_bind, run_when, run_of, hu, h1, h2, isInt, isBl, truth, cmpD, Lit.d, hn]
      simpa [isCell, hi] using w
  | bl b =>
    simp [evSs, evS, ev, evs, evV, evT, evTs, evp, evI, evO, evG, run_ok, run_bind, run_when, run_of, hu, h1, h2, isInt, isBl, truth, Lit.d]
    exact w
  | _ =>
    simp [evSs, evS, ev, evs, evV, evT, evTs, evp, evI, evO, evG, run_ok, run_bind, run_when, run_of, hu, h1, isInt, truth, Lit.d]
    exact w
/-- one row -/
theorem own_row {n : Nat} {M : Mem} {d : D} {c h lb : Nat} {x y : Option D} {Q : Fl × Ev × Mem → Prop} (k : Dat M d c h lb) (hh : h ≤ 64) (w : ∀ z, Q (if isRow d = true then .nx else .rt (.bl false), [x, some d, z], M)) :
    Run (evSs g (callF g n) (.cons (.iff (.bool false (.cons (.not (.val (.isi (.var 1) "tuple"))) (.cons (.val (.cmp .ne (.bi .len (.cons (.var 1) .nil)) (.lit (.int 3)))) (.cons (.val (.cmp .nmem (.idx (.var 1) (.lit (.int 1))) (.tup (.cons (.lit (.str "r")) (.cons (.lit (.str "w")) .nil))))) .nil)))) (.cons (.ret (.lit (.bl false))) .nil) .nil) f10_1) [x, some d, y] M) Q := by
  obtain ⟨u, hu, h1, h2, h3, h4⟩ := ty_all k
  refine run_cons ?_
  have other : ∀ xs : List D, xs.length ≠ 3 → isRow (.tup xs) = false := fun xs hx => by
    match xs, hx with
    | [], _ => rfl
    | [_], _ => rfl
    | [_, _], _ => rfl
    | [_, _, _], hx => exact absurd rfl hx
    | _ :: _ :: _ :: _ :: _, _ => rfl
  cases d with
  | tup xs =>
    have e4 : isTup (.tup xs) = true := rfl
    by_cases hx : xs.length = 3
    · match xs, hx with
      | [a, b, e], _ =>
        have kl := k.tupL
        have ka := kl.mem a (by simp)
        have kb := kl.mem b (by simp)
        have kc := kl.mem e (by simp)
        have wb := deed_in kb hh
        have e0 : isRow (.tup [a, b, e]) = ((isCell a && isCell e) && isDeed b) := rfl
        rw [e0] at w
        have i1 : idxD M (.tup [a, b, e]) (.int 1) = some b := rfl
        have i0 : idxD M (.tup [a, b, e]) (.int 0) = some a := rfl
        have i2 : idxD M (.tup [a, b, e]) (.int 2) = some e := rfl
        cases hb : isDeed b with
        | false =>
          rw [hb] at wb w
          simp [evSs, evS, ev, evs, evV, evT, evTs, evp, evI, evO, evG, run_ok, run_bind, run_when, run_of, hu, h4, e4, truth, Lit.d, biD, lenD, cmpD, eq_int, i1, wb, sizeLine_eq]
          simpa using w y
        | true =>
          rw [hb] at wb w
          simp [evSs, evS, ev, evs, evV, evT, evTs, evp, evI, evO, evG, run_ok, run_bind, run_when, run_of, hu, h4, e4, truth, Lit.d, biD, lenD, cmpD, eq_int, i1, wb, sizeLine_eq]
          refine run_cons (run_frT ?_)
          clear wb e0 other hu h4 e4 k kl hb
          simp only [evSs, evS, ev, evs, evV, evT, evTs, evp, evI, evO, evG, run_ok, run_bind, run_when, run_of, Lit.d, i0, i2, List.getElem?_cons_zero, List.getElem?_cons_succ, R.of_some, R.bind_ok]
          refine ⟨by rw [sizeLine_eq]; simp, [a, e], rfl, ?_⟩
          -- two numbers
          refine run_for (xs := [a, e]) (fun t st M' => M' = M ∧ ∃ z, st = [x, some (.tup [a, b, e]), z] ∧ (0 < t → isCell a = true) ∧ (1 < t → isCell e = true)) (by show 2 < _; omega) ⟨rfl, y, rfl, fun h => absurd h (by decide), fun h => absurd h (by decide)⟩ (fun t d st M' et ⟨e1, z, e2, e3, e4⟩ => ?_) fun st M' ⟨e1, z, e2, e3, e4⟩ => ?_
          · subst e1 e2
            match t, et with
            | 0, et =>
              cases et
              refine run_ok.mpr (own_num (n := n) (x := x) (y := some (.tup [a, b, e])) ka ?_)
              cases ca : isCell a with
              | true => exact ⟨rfl, _, rfl, fun _ => rfl, fun h => absurd h (by decide)⟩
              | false => have w := w (some a); rw [ca] at w; exact w
            | 1, et =>
              cases et
              have ca := e3 (by decide)
              refine run_ok.mpr (own_num (n := n) (x := x) (y := some (.tup [a, b, e])) kc ?_)
              cases ce : isCell e with
              | true => exact ⟨rfl, _, rfl, fun _ => ca, fun _ => rfl⟩
              | false => have w := w (some e); rw [ca, ce] at w; exact w
          · subst e1 e2
            have ca := e3 (by show 0 < 2; decide)
            have ce := e4 (by show 1 < 2; decide)
            have w := w z
            rw [ca, ce] at w
            exact w
    · have hx2 : ((xs.length : Int) == 3) = false := beq_eq_false_iff_ne.mpr (by omega)
      have w := w y
      rw [other xs hx] at w
      simp [evSs, evS, ev, evs, evV, evT, evTs, evp, evI, evO, evG, run_ok, run_bind, run_when, run_of, hu, h4, e4, truth, Lit.d, biD, lenD, cmpD, eq_int, hx2]
      exact w
  | _ =>
    simp [evSs, evS, ev, evs, evV, evT, evTs, evp, evI, evO, evG, run_ok, run_bind, run_when, run_of, hu, h4, isTup, truth, Lit.d]
    exact w y
theorem own_run {n : Nat} {M : Mem} {d : D} {c h lb : Nat} {Q : D × Mem → Prop} (k : Dat M d c h lb) (hc : c ≤ 16777216) (hh : h ≤ 64) (w : Q (.bl (isW d), M)) : Run (callF g (n + 1) 10 [d] M) Q := by
  obtain ⟨u, hu, h1, h2, h3, h4⟩ := ty_all k
  refine run_call [d] (F := f10) rfl rfl ?_
  refine run_rt ?_
  show Run (evSs g (callF g n) (.cons (.iff (.not (.val (.isi (.var 0) "tuple"))) (.cons (.ret (.lit (.bl false))) .nil) .nil) f10_3) [some d, none, none] M) _
  refine run_cons ?_
  cases d with
  | tup xs =>
    have e4 : isTup (.tup xs) = true := rfl
    have kl := k.tupL
    have ln := kl.len
    simp [evSs, evS, ev, evs, evV, evT, evTs, evp, evI, evO, evG, run_ok, run_bind, run_when, run_of, hu, h4, e4, truth]
    refine run_cons (run_frT (run_ok.mpr ⟨xs, rfl, ?_⟩))
    refine run_for (xs := xs) (fun t st M' => M' = M ∧ (∃ y z, st = [some (.tup xs), y, z]) ∧ ((xs.take t).all isRow) = true) (by omega) ⟨rfl, ⟨none, none, rfl⟩, rfl⟩ (fun t d st M' et ⟨e1, ⟨y, z, e2⟩, e3⟩ => ?_) fun st M' ⟨e1, ⟨y, z, e2⟩, e3⟩ => ?_
    · subst e1 e2
      have kd := kl.get et
      refine run_ok.mpr (own_row (n := n) (x := some (.tup xs)) (y := z) kd hh fun z => ?_)
      cases hr : isRow d with
      | true =>
        refine ⟨rfl, ⟨_, _, rfl⟩, ?_⟩
        rw [List.take_add_one, et, List.all_append, e3]
        simp [hr]
      | false =>
        have : isW (.tup xs) = false := by
          show xs.all isRow = false
          exact List.all_eq_false.mpr ⟨d, List.mem_of_getElem? et, by rw [hr]; exact Bool.false_ne_true⟩
        rw [this] at w
        exact w
    · subst e1 e2
      rw [List.take_length] at e3
      have : isW (.tup xs) = true := e3
      rw [this] at w
      show Run (evSs g (callF g n) (.cons (.ret (.lit (.bl true))) .nil) _ _) _
      refine run_cons ?_
      simp [evSs, evS, ev, evs, evV, evT, evTs, evp, evI, evO, evG, run_ok, run_bind, run_when, run_of, Lit.d]
      exact w
  | _ =>
    simp [evSs, evS, ev, evs, evV, evT, evTs, evp, evI, evO, evG, run_ok, run_bind, run_when, run_of, hu, h4, isTup, truth, Lit.d]
    exact w
end Lw

namespace Lw
open PySem L2 Cp
theorem all_cons {P : D → Prop} {x : D} {L : List D} (h : P x) (k : ∀ y ∈ L, P y) : ∀ y ∈ x :: L, P y := fun y hy => by
  rcases List.mem_cons.mp hy with rfl | hy
  · exact h
  · exact k y hy
theorem all_nil {P : D → Prop} : ∀ y ∈ ([] : List D), P y := fun y hy => by cases hy
theorem log_le {n m : Nat} (h : m ≤ n + 1) : m.log2 ≤ n.log2 + 1 := by
  by_cases h0 : m = 0
  · subst h0; rw [Nat.log2_zero]; omega
  · have h1 : n < 2 ^ (n.log2 + 1) := Nat.lt_log2_self
    have h2 : m < 2 ^ (n.log2 + 2) := by rw [Nat.pow_succ]; omega
    have := (Nat.log2_lt h0).mpr h2
    omega
theorem _root_.Cp.Dat.of_int {M : Mem} {i : Int} {c h lb : Nat} (w : i.natAbs.log2 < lb) (hc : i.natAbs.log2 + 2 ≤ c) : Dat M (.int i) c h lb := (Dat.int w).mono hc (Nat.zero_le _)
theorem _root_.Cp.Dat.of_str {M : Mem} {x : Str} {c h lb : Nat} (w : PyData.strOk x = true) (hc : 10 * x.length + 2 ≤ c) : Dat M (.str x) c h lb := (Dat.str w).mono hc (Nat.zero_le _)
theorem _root_.Cp.Dat.of_bl {M : Mem} {b : Bool} {c h lb : Nat} (hc : 5 ≤ c) : Dat M (.bl b) c h lb := (Dat.bl b).mono hc (Nat.zero_le _)
theorem _root_.Cp.Dat.of_non {M : Mem} {c h lb : Nat} (hc : 4 ≤ c) : Dat M .non c h lb := Dat.non.mono hc (Nat.zero_le _)
theorem _root_.Cp.Dat.of_tup {M : Mem} {xs : List D} {c c' h h' lb : Nat} (k : DatL M xs c' h' lb) (hc : c' + 3 ≤ c) (hh : h' + 1 ≤ h) : Dat M (.tup xs) c h lb := (Dat.tup k).mono hc hh
theorem _root_.Cp.Dat.of_lst {M : Mem} {xs : List D} {i c c' h h' lb : Nat} (e : M[i]? = some (.lst xs)) (k : DatL M xs c' h' lb) (hc : c' + 2 ≤ c) (hh : h' + 1 ≤ h) : Dat M (.ref i) c h lb := (Dat.lst e k).mono hc hh
theorem _root_.Cp.DatL.one {M : Mem} {d : D} {c h lb : Nat} (k : Dat M d c h lb) : DatL M [d] (c + 2) h lb := (DatL.cons k (DatL.nil (lb := lb))).mono (by omega) (by omega)
theorem log60 : ((10 : Int) ^ 60).natAbs.log2 = 199 := by decide +kernel
theorem vw_new {S : Nat → Bool} {M : Mem} {xs : List D} {L : Mem} {i : Nat} (hS : ∀ i, M.length ≤ i → S i = false) (hi : M.length ≤ i) (e : (M ++ L)[i]? = some (.lst xs)) : (vw S (M ++ L))[i]? = some (.lst xs) := vw_lst.mpr ⟨hS i hi, e⟩
theorem c_int {V : Mem} {i : Int} {c h lb : Nat} (e : i.natAbs.log2 = 0) (hc : 2 ≤ c) (hb : 0 < lb) : Dat V (.int i) c h lb := Dat.of_int (by rw [e]; exact hb) (by rw [e]; exact hc)
theorem c_str {V : Mem} {s : String} {k c h lb : Nat} (e : (Str.ofString s).length = k) (hc : 10 * k + 2 ≤ c) : Dat V (.str (Str.ofString s)) c h lb := Dat.of_str (ok_text s) (by rw [e]; exact hc)
theorem cut_lo {xs : List D} {i : Nat} (h : i ≤ xs.length) : cutL xs none (some (i : Int)) = xs.take i := by
  unfold cutL
  rw [HT.sIx_none, HT.sIx_nat, List.drop_zero, Nat.sub_zero, Nat.min_eq_left h]
theorem cut_hi {xs : List D} {i : Nat} (h : i ≤ xs.length) : cutL xs (some (i : Int)) none = xs.drop i := by
  unfold cutL
  rw [HT.sIx_none, HT.sIx_nat, Nat.min_eq_left h, List.take_of_length_le (by rw [List.length_drop]; exact Nat.le_refl _)]
theorem ok_app {x y : Str} (hx : PyData.strOk x = true) (hy : PyData.strOk y = true) : PyData.strOk (x ++ y) = true := by
  show (x.cps ++ y.cps).all _ = true
  rw [Array.all_append]
  show (PyData.strOk x && PyData.strOk y) = true
  rw [hx, hy]; rfl
theorem ok_cut {x : Str} (h : PyData.strOk x = true) (lo hi : Option Int) : PyData.strOk (cutS x lo hi) = true := by
  unfold PyData.strOk at h ⊢
  rw [Array.all_eq_true'] at h ⊢
  intro c hc
  unfold cutS at hc
  have hc : c ∈ (x.cps.toList.drop (HT.sIx x.length 0 lo)).take (HT.sIx x.length x.length hi - HT.sIx x.length 0 lo) := by simpa using hc
  exact h c (by simpa using List.mem_of_mem_drop (List.mem_of_mem_take hc))
theorem len_cut {x : Str} (lo hi : Option Int) : (cutS x lo hi).length ≤ x.length := by
  show (List.toArray _).size ≤ x.cps.size
  rw [List.size_toArray, List.length_take, List.length_drop, Array.length_toList]
  omega
/-- a sign of a text -/

theorem vw_tape {S : Nat → Bool} {M M' : Mem} {a : Nat} (g : Gr a M M') (ha : S a = true) : Gl (vw S M) (vw S M') := vw_gl fun i xs hi e => g i _ (fun z => by subst z; rw [ha] at hi; cases hi) e
theorem pick_of {n : Nat} {M : Mem} {a B i : Nat} {many : Int} {L : List D} {P : D → Mem → Prop} (hf : Tape M a B) (hB : B ≤ 900000000) (hi : M[i]? = some (.lst L)) (ne : i ≠ a) (hL : many = L.length) (h0 : 0 < L.length) (h1 : L.length < 1000)
    (w : ∀ x ∈ L, ∀ M', Tape M' a (B + 1) → Gr a M M' → P x M') : Run (callF g (n + 1) 6 [.ref a, .int many] M) fun z => ∃ x, idxD z.2 (.ref i) z.1 = some x ∧ P x z.2 := by
  subst hL
  refine pick_run hf (by omega) (by omega) (by omega) fun r M' r0 r1 hf' g' => ?_
  obtain ⟨x, e1, e2⟩ := pickL (P := fun x => x ∈ L) r0 r1 fun x hx => hx
  exact ⟨x, idx_ref (g' _ _ ne hi) e1, w x e2 M' hf' g'⟩
theorem opt_int {V : Mem} {i j : Int} {c h lb : Nat} (hi : i.natAbs.log2 < lb) (hc : i.natAbs.log2 + 2 ≤ c) (hj : j.natAbs ≤ i.natAbs + 9) : Dat V (.int j) (10 * c + 300) (h + 1) (lb + 4) := by
  have : j.natAbs.log2 ≤ i.natAbs.log2 + 4 := by
    by_cases h0 : j.natAbs = 0
    · rw [h0, Nat.log2_zero]; omega
    · have h1 : i.natAbs < 2 ^ (i.natAbs.log2 + 1) := Nat.lt_log2_self
      have h3 : 1 ≤ 2 ^ i.natAbs.log2 := Nat.one_le_two_pow
      have h2 : j.natAbs < 2 ^ (i.natAbs.log2 + 5) := by rw [Nat.pow_succ] at h1; rw [show i.natAbs.log2 + 5 = i.natAbs.log2 + 4 + 1 by omega, Nat.pow_succ, Nat.pow_succ, Nat.pow_succ, Nat.pow_succ, Nat.pow_succ]; omega
      have := (Nat.log2_lt h0).mpr h2
      omega
  exact Dat.of_int (by omega) (by omega)
theorem bent_rest {S : Nat → Bool} {n : Nat} {M : Mem} {a B : Nat} {d : D} {x2 x3 : Option D} {c h lb : Nat} {P : D → Mem → Prop} (hf : Tape M a B) (hB : B ≤ 800000000) (hd : Dat (vw S M) d c h lb) (hl : 250 ≤ lb) (hl2 : lb ≤ 1900) (hc : c ≤ 1000000) (ha : S a = true) (hS : ∀ i, M.length ≤ i → S i = false)
    (w : ∀ d' M', Dat (vw S M') d' (10 * c + 300) (h + 1) (lb + 4) → Tape M' a (B + 1) → Gr a M M' → P d' M') :
    Run (evSs g (callF g (n + 1)) f9_7 [some (.ref a), some d, x2, x3, none, none] M) fun q => match q.1 with | .rt d' => P d' q.2.2 | _ => False := by
  have la := hf.lt
  obtain ⟨u, hu, k1, k2, k3, k4⟩ := ty_all (hd.gl vw_self)
  have low4 : ∀ {x : D} {c' h' : Nat} (L : Mem), Dat (vw S M) x c' h' lb → c' ≤ 10 * c + 300 → h' ≤ h + 1 → Dat (vw S (M ++ L)) x (10 * c + 300) (h + 1) (lb + 4) := fun L k e1 e2 => ((k.gl (Gl.vw gwA.gl)).mono e1 e2).low (by omega)
  have put : ∀ {x : D} {L : Mem} {M' : Mem}, Dat (vw S (M ++ L)) x (10 * c + 300) (h + 1) (lb + 4) → Tape M' a (B + 1) → Gr a (M ++ L) M' → P x M' := fun k f g => w _ _ (k.gl (vw_tape g ha)) f (gwA.gr.trans g)
  -- none of these kinds
  have last : Run (evSs g (callF g (n + 1)) f9_4 [some (.ref a), some d, x2, x3, none, none] M) fun q => match q.1 with | .rt d' => P d' q.2.2 | _ => False := by
    refine run_cons ?_
    simp [evSs, evS, ev, evs, evV, evT, evTs, evp, evI, evO, evG, run_ok, run_bind, run_when, run_of, Lit.d, newM, sizeLine_eq]
    refine pick_of (hf.gw gwA) (by omega) at0 (by omega) rfl (by simp) (by simp) fun y hy M' hf' g' => put ?_ hf' g'
    simp only [List.mem_cons, List.not_mem_nil, or_false] at hy
    rcases hy with rfl | rfl | rfl
    · exact Dat.of_non (by omega)
    · exact c_int (by decide +kernel) (by omega) (by omega)
    · exact Dat.of_tup (DatL.nil (lb := lb + 4)) (by omega) (by omega)
  refine run_cons ?_
  cases ht : isTup d with
  | true =>
    cases d with
    | tup xs =>
      obtain ⟨c0, h0, dl, e0, e1⟩ := hd.tupL'
      have ln := dl.len
      have dl1 : ∀ L : Mem, DatL (vw S (M ++ L)) xs c0 h0 (lb + 4) := fun L => (dl.gl (Gl.vw gwA.gl)).low (by omega)
      have lcut : ∀ lo hi, (cutL xs lo hi).length ≤ xs.length := fun lo hi => by unfold cutL; rw [List.length_take, List.length_drop]; omega
      have lc1 := lcut (some (-1)) none
      have lsum : xs.length + (cutL xs (some (-1)) none).length ≤ 16777216 := by omega
      simp [evSs, evS, ev, evs, evV, evT, evTs, evp, evI, evO, evG, run_ok, run_bind, run_when, run_of, hu, k4, isTup, truth, Lit.d, slcD, revD, binD, sizeLine_eq, lsum, newM]
      refine run_cons ?_
      have m0 : (M ++ [MO.lst [.tup (cutL xs (some 1) none), .tup (cutL xs none (some (-1))), .tup xs.reverse, .tup (xs ++ cutL xs (some (-1)) none)]])[M.length]? = some (.lst [.tup (cutL xs (some 1) none), .tup (cutL xs none (some (-1))), .tup xs.reverse, .tup (xs ++ cutL xs (some (-1)) none)]) := at0
      generalize hW : ([.tup (cutL xs (some 1) none), .tup (cutL xs none (some (-1))), .tup xs.reverse, .tup (xs ++ cutL xs (some (-1)) none)] : List D) = W at m0
      have hWl : W.length = 4 := by rw [← hW]; rfl
      have b0 : (M ++ [MO.lst W, MO.lst xs, MO.lst [.ref (M.length + 1), .tup [.tup xs], .tup []]])[M.length]? = some (.lst W) := at0
      have b1 : (M ++ [MO.lst W, MO.lst xs, MO.lst [.ref (M.length + 1), .tup [.tup xs], .tup []]])[M.length + 2]? = some (.lst [.ref (M.length + 1), .tup [.tup xs], .tup []]) := at2
      simp [evSs, evS, ev, evs, evV, evT, evTs, evp, evI, evO, evG, run_ok, run_bind, run_when, run_of, Lit.d, biD, itemsD, newM, sizeLine_eq, binD, b0, b1, hWl]
      have f1 : Tape (M ++ [MO.lst W, MO.lst xs, MO.lst [.ref (M.length + 1), .tup [.tup xs], .tup []], MO.lst (W ++ [.ref (M.length + 1), .tup [.tup xs], .tup []])]) a B := hf.gw gwA
      refine pick_of (L := W ++ [.ref (M.length + 1), .tup [.tup xs], .tup []]) f1 (by omega) at3 (by omega) (by rw [List.length_append, hWl]; rfl) (by rw [List.length_append, hWl]; simp) (by rw [List.length_append, hWl]; simp) fun x hx M' hf' g' => put ?_ hf' g'
      subst hW
      simp only [List.cons_append, List.nil_append, List.mem_cons, List.not_mem_nil, or_false] at hx
      rcases hx with rfl | rfl | rfl | rfl | rfl | rfl | rfl
      · exact Dat.of_tup ((dl1 _).cut _ _) (by omega) (by omega)
      · exact Dat.of_tup ((dl1 _).cut _ _) (by omega) (by omega)
      · exact Dat.of_tup (dl1 _).rev (by omega) (by omega)
      · exact Dat.of_tup ((dl1 _).append ((dl1 _).cut _ _)) (by omega) (by omega)
      · exact Dat.of_lst (vw_new hS (by omega) at1) (dl1 _) (by omega) (by omega)
      · exact Dat.of_tup (DatL.one (Dat.of_tup (c := c) (h := h) (dl1 _) e0 e1)) (by omega) (by omega)
      · exact Dat.of_tup (DatL.nil (lb := lb + 4)) (by omega) (by omega)
    | _ => cases ht
  | false =>
    simp [evSs, evS, ev, evs, evV, evT, evTs, evp, evI, evO, evG, run_ok, run_bind, run_when, run_of, hu, k4, ht, truth]
    refine run_cons ?_
    cases hi : isInt d with
    | true =>
      cases d with
      | int i =>
        obtain ⟨i1, i2⟩ := hd.lo
        simp [evSs, evS, ev, evs, evV, evT, evTs, evp, evI, evO, evG, run_ok, run_bind, run_when, run_of, hu, k1, k2, isInt, isBl, truth, Lit.d, binD, cmpD, eq_int, pow60, newM, sizeLine_eq]
        refine run_cons ?_
        generalize hW : ([.int (i + 1), .int (i - 1), .int 0, .int (-1), .bl (i == 1), .int 1000000000000000000000000000000000000000000000000000000000000, .non, .str (Str.ofString "1"), .ref M.length] : List D) = W
        have hWl : W.length = 9 := by rw [← hW]; rfl
        have b0 : (M ++ [MO.lst [.int i], MO.lst W, MO.lst [.int (i + 9)]])[M.length + 1]? = some (.lst W) := at1
        have b1 : (M ++ [MO.lst [.int i], MO.lst W, MO.lst [.int (i + 9)]])[M.length + 2]? = some (.lst [.int (i + 9)]) := at2
        simp [evSs, evS, ev, evs, evV, evT, evTs, evp, evI, evO, evG, run_ok, run_bind, run_when, run_of, Lit.d, newM, sizeLine_eq, binD, b0, b1, hWl]
        have f1 : Tape (M ++ [MO.lst [.int i], MO.lst W, MO.lst [.int (i + 9)], MO.lst (W ++ [.int (i + 9)])]) a B := hf.gw gwA
        refine pick_of (L := W ++ [.int (i + 9)]) f1 (by omega) at3 (by omega) (by rw [List.length_append, hWl]; rfl) (by rw [List.length_append, hWl]; simp) (by rw [List.length_append, hWl]; simp) fun x hx M' hf' g' => put ?_ hf' g'
        subst hW
        simp only [List.cons_append, List.nil_append, List.mem_cons, List.not_mem_nil, or_false] at hx
        rcases hx with rfl | rfl | rfl | rfl | rfl | rfl | rfl | rfl | rfl | rfl
        · exact opt_int i1 i2 (by omega)
        · exact opt_int i1 i2 (by omega)
        · exact c_int (by decide +kernel) (by omega) (by omega)
        · exact c_int (by decide +kernel) (by omega) (by omega)
        · exact Dat.of_bl (by omega)
        · have e : (1000000000000000000000000000000000000000000000000000000000000 : Int).natAbs.log2 = 199 := by decide +kernel
          exact Dat.of_int (by omega) (by omega)
        · exact Dat.of_non (by omega)
        · exact c_str (k := 1) (by decide +kernel) (by omega)
        · exact Dat.of_lst (vw_new hS (by omega) at0) (DatL.one (Dat.of_int (c := c) (h := 0) (lb := lb + 4) (by omega) i2)) (by omega) (by omega)
        · exact opt_int i1 i2 (by omega)
      | bl t =>
        simp [evSs, evS, ev, evs, evV, evT, evTs, evp, evI, evO, evG, run_ok, run_bind, run_when, run_of, hu, k1, k2, k3, isInt, isBl, isStr, truth]
        refine run_cons ?_
        simp [evSs, evS, ev, evs, evV, evT, evTs, evp, evI, evO, evG, run_ok, run_bind, run_when, run_of, hu, k3, isStr, truth]
        exact last
      | _ => cases hi
    | false =>
      simp [evSs, evS, ev, evs, evV, evT, evTs, evp, evI, evO, evG, run_ok, run_bind, run_when, run_of, hu, k1, hi, truth]
      refine run_cons ?_
      cases hs : isStr d with
      | false =>
        simp [evSs, evS, ev, evs, evV, evT, evTs, evp, evI, evO, evG, run_ok, run_bind, run_when, run_of, hu, k3, hs, truth]
        exact last
      | true =>
        cases d with
        | str x =>
          obtain ⟨x1, x2⟩ := hd.strOk
          have l1 : x.length + 1 ≤ 16777216 := by omega
          have l2 : x.length ≤ 16777216 := by omega
          have lw : (Str.ofString "w").length = 1 := by decide +kernel
          simp [evSs, evS, ev, evs, evV, evT, evTs, evp, evI, evO, evG, run_ok, run_bind, run_when, run_of, hu, k3, isStr, truth, Lit.d, binD, slcD, lw, l1, l2, sizeLine_eq, newM]
          have b0 := at1 (M := M) (x := MO.lst [.str (Str.ofString "r")]) (y := MO.lst [.str (x ++ Str.ofString "w"), .str (cutS x (some 1) none), .str (Str.ofString ""), .str (Str.ofString "w"), .str (Str.ofString "r"), .non, .int 3, .str (Str.ofString "R"), .ref M.length]) (L := [])
          refine pick_of (hf.gw gwA) (by omega) b0 (by omega) rfl (by simp) (by simp) fun y hy M' hf' g' => put ?_ hf' g'
          simp only [List.mem_cons, List.not_mem_nil, or_false] at hy
          have lc := len_cut (x := x) (some 1) none
          have la : (x ++ Str.ofString "w").length = x.length + 1 := by rw [Str.length_append, lw]
          rcases hy with rfl | rfl | rfl | rfl | rfl | rfl | rfl | rfl | rfl
          · exact Dat.of_str (ok_app x1 (ok_text _)) (by omega)
          · exact Dat.of_str (ok_cut x1 _ _) (by omega)
          · exact c_str (k := 0) (by decide +kernel) (by omega)
          · exact c_str (k := 1) (by decide +kernel) (by omega)
          · exact c_str (k := 1) (by decide +kernel) (by omega)
          · exact Dat.of_non (by omega)
          · have e : (3 : Int).natAbs.log2 = 1 := by decide +kernel
            exact Dat.of_int (by omega) (by omega)
          · exact c_str (k := 1) (by decide +kernel) (by omega)
          · exact Dat.of_lst (vw_new hS (by omega) at0) (DatL.one (c := 12) (h := 0) (c_str (k := 1) (by decide +kernel) (by omega))) (by omega) (by omega)
        | _ => cases hs
theorem bent_run {S : Nat → Bool} : ∀ (h n : Nat) {M : Mem} {a B : Nat} {d : D} {c lb : Nat} {Q : D × Mem → Prop}, Tape M a B → B + 3 * h + 3 ≤ 700000000 → Dat (vw S M) d c h lb → 250 ≤ lb → lb ≤ 1900 → c ≤ 1000000 → h ≤ 60 → S a = true → (∀ i, M.length ≤ i → S i = false) →
    (∀ d' M', Dat (vw S M') d' (10 * c + 300) (h + 1) (lb + 4) → Tape M' a (B + 3 * h + 3) → Gr a M M' → Q (d', M')) → Run (callF g (n + h + 2) 9 [.ref a, d] M) Q := by
  intro h
  induction h with
  | zero =>
    intro n M a B d c lb Q hf hB hd hl hl2 hc hh ha hS w
    refine run_call [.ref a, d] (F := f9) rfl rfl ?_
    refine run_rt ?_
    show Run (evSs g (callF g (n + 1)) (.cons (.asg (.nm 2) (.call 6 (.cons (.var 0) (.cons (.lit (.int 8)) .nil)))) f9_8) [some (.ref a), some d, none, none, none, none] M) _
    refine run_cons ?_
    simp [evSs, evS, ev, evs, evV, evT, evTs, evp, evI, evO, evG, run_ok, run_bind, run_when, run_of, Lit.d]
    refine pick_run hf (by omega) (by decide) (by decide) fun r M1 r0 r1 hf1 g1 => ?_
    have hd1 := hd.gl (vw_tape g1 ha)
    have hS1 : ∀ i, M1.length ≤ i → S i = false := fun i hi => hS i (Nat.le_trans (g1.len hf1) hi)
    obtain ⟨u, hu, _, _, _, k4⟩ := ty_all (hd1.gl vw_self)
    have ht : isTup d = false := by
      cases d with
      | tup xs => obtain ⟨c0, h0, _, _, e⟩ := hd.tupL'; omega
      | _ => rfl
    refine run_cons ?_
    simp [evSs, evS, ev, evs, evV, evT, evTs, evp, evI, evO, evG, run_ok, run_bind, run_when, run_of, hu, k4, ht, truth]
    exact bent_rest hf1 (by omega) hd1 hl hl2 hc ha hS1 fun d' M' k1 k2 k3 => w d' M' k1 (k2.mono (by omega)) (g1.trans k3)
  | succ h ih =>
    intro n M a B d c lb Q hf hB hd hl hl2 hc hh ha hS w
    refine run_call [.ref a, d] (F := f9) rfl rfl ?_
    refine run_rt ?_
    show Run (evSs g (callF g (n + h + 2)) (.cons (.asg (.nm 2) (.call 6 (.cons (.var 0) (.cons (.lit (.int 8)) .nil)))) f9_8) [some (.ref a), some d, none, none, none, none] M) _
    refine run_cons ?_
    simp [evSs, evS, ev, evs, evV, evT, evTs, evp, evI, evO, evG, run_ok, run_bind, run_when, run_of, Lit.d]
    refine pick_run hf (by omega) (by decide) (by decide) fun r M1 r0 r1 hf1 g1 => ?_
    have hd1 := hd.gl (vw_tape g1 ha)
    have hS1 : ∀ i, M1.length ≤ i → S i = false := fun i hi => hS i (Nat.le_trans (g1.len hf1) hi)
    obtain ⟨u, hu, _, _, _, k4⟩ := ty_all (hd1.gl vw_self)
    have rest := bent_rest (n := n + h + 1) (x2 := some (.int r)) (x3 := none) (P := fun d' M' => Q (d', M')) hf1 (by omega) hd1 hl hl2 hc ha hS1 fun d' M' k1 k2 k3 => w d' M' k1 (k2.mono (by omega)) (g1.trans k3)
    refine run_cons ?_
    cases ht : isTup d with
    | false =>
      simp [evSs, evS, ev, evs, evV, evT, evTs, evp, evI, evO, evG, run_ok, run_bind, run_when, run_of, hu, k4, ht, truth]
      exact rest
    | true =>
      cases d with
      | tup xs =>
        have e0 := eq_nilT ((hd1.gl vw_self).tupL) (by omega)
        cases xs with
        | nil =>
          simp [evSs, evS, ev, evs, evV, evT, evTs, evp, evI, evO, evG, run_ok, run_bind, run_when, run_of, hu, k4, ht, truth, cmpD, e0]
          exact rest
        | cons x0 xs =>
          by_cases hr : r < 6
          · simp [evSs, evS, ev, evs, evV, evT, evTs, evp, evI, evO, evG, run_ok, run_bind, run_when, run_of, hu, k4, ht, truth, cmpD, e0, Lit.d, hr]
            clear e0 rest
            have hpos : 0 < (x0 :: xs).length := by rw [List.length_cons]; omega
            generalize x0 :: xs = ys at hd1 hu hpos ⊢
            simp [biD, lenD]
            obtain ⟨c0, h0, dl, e0, e1⟩ := hd1.tupL'
            have ln := dl.len
            refine pick_run hf1 (by omega) (by omega) (by omega) fun k M2 m0 m1 hf2 g2 => ?_
            obtain ⟨k, rfl⟩ := Int.eq_ofNat_of_zero_le m0
            have m1 : k < ys.length := by omega
            simp
            refine run_cons ?_
            have ek := cut_lo (Nat.le_of_lt m1)
            have ek2 := cut_hi (xs := ys) (i := k + 1) m1
            obtain ⟨y, ey, ey2⟩ := atI_mem (xs := ys) m0 (by omega)
            have ey2 : ys[k]? = some y := ey2
            have dl2 := dl.gl (vw_tape g2 ha)
            obtain ⟨c1, c2, c3, a1, a2, a3, a4⟩ := dl2.swap ey2
            have hS2 : ∀ i, M2.length ≤ i → S i = false := fun i hi => hS1 i (Nat.le_trans (g2.len hf2) hi)
            simp [evSs, evS, ev, evs, evV, evT, evTs, evp, evI, evO, evG, run_ok, run_bind, run_when, run_of, Lit.d, slcD, idxD]
            refine ⟨y, ey, ?_⟩
            refine ih n hf2 (by omega) (a2.mono (Nat.le_refl _) (by omega)) hl hl2 (by omega) (by omega) ha hS2 fun d' M3 b1 b2 b3 => ?_
            have lt : (ys.take k).length ≤ ys.length := by rw [List.length_take]; omega
            have ld : (ys.drop (k + 1)).length ≤ ys.length := by rw [List.length_drop]; omega
            have up := vw_tape b3 ha
            simp [binD, sizeLine_eq, Lit.d, slcD]
            have ek3 : cutL ys (some ((k : Int) + 1)) none = ys.drop (k + 1) := ek2
            rw [ek3, show cutL ys none (some (k : Int)) = ys.take k from ek]
            simp only [List.length_take, List.length_drop] at lt ld ⊢
            refine ⟨by omega, by omega, w _ _ ?_ (b2.mono (by omega)) ((g1.trans g2).trans b3)⟩
            have t1 := (a1.gl up).low (show lb ≤ lb + 4 by omega)
            have t3 := (a3.gl up).low (show lb ≤ lb + 4 by omega)
            have := (t1.append (DatL.cons b1 t3))
            exact Dat.of_tup this (by omega) (by omega)
          · simp [evSs, evS, ev, evs, evV, evT, evTs, evp, evI, evO, evG, run_ok, run_bind, run_when, run_of, hu, k4, ht, truth, cmpD, e0, Lit.d, hr]
            exact rest
      | _ => cases ht
end Lw

namespace Lw
open PySem L2 Cp
theorem run_reprB {M : Mem} {b : Bool} {Q : D × Mem → Prop} (w : Q (.str (PyData.bool b).shown, M)) : Run (biD M .repr [.bl b]) Q :=
  run_repr (Dat.bl (M := M) (lb := 5) b) (by decide) (by decide) (by decide) fun p h => by cases h; exact w
theorem ne_self {M : Mem} {x : Str} : cmpD M .ne (.str x) (.str x) = some false := by
  show some (!(x == x)) = _
  rw [beq_self_eq_true]; rfl
theorem log_lt {n k : Nat} (h : n < 2 ^ k) (hk : 0 < k) : n.log2 < k := by
  by_cases h0 : n = 0
  · subst h0; rw [Nat.log2_zero]; exact hk
  · exact (Nat.log2_lt h0).mpr h
theorem row_dat {V : Mem} {r : Row} {lb : Nat} (h1 : r.h.natAbs < 1024) (h2 : r.c.natAbs < 1024) (hl : 10 ≤ lb) : Dat V (rowD r) 44 1 lb := by
  have l1 := log_lt (k := 10) h1 (by decide)
  have l2 := log_lt (k := 10) h2 (by decide)
  have ls : Dat V (.str (deedS r.w)) 12 0 lb := by
    cases hw : r.w with
    | true => exact c_str (k := 1) (by decide +kernel) (by omega)
    | false => exact c_str (k := 1) (by decide +kernel) (by omega)
  exact Dat.of_tup (DatL.cons (Dat.of_int (c := 11) (h := 0) (by omega) (by omega)) (DatL.cons ls (DatL.one (Dat.of_int (c := 11) (h := 0) (by omega) (by omega))))) (by omega) (by omega)
def RowsOk (rs : List Row) : Prop := ∀ r ∈ rs, 0 ≤ r.h ∧ r.h < 1024 ∧ 0 ≤ r.c ∧ r.c < 1024
theorem rowsOk_of {rs : List Row} {k : Nat} (h : ∀ r ∈ rs, r.h ∈ handsL.take k ∧ r.c ∈ poolL) : RowsOk rs := fun r hr => by
  obtain ⟨h1, h2⟩ := h r hr
  have h1 := List.mem_of_mem_take h1
  have a1 : ∀ x ∈ handsL, 0 ≤ x ∧ x < 1024 := by decide
  have a2 : ∀ x ∈ poolL, 0 ≤ x ∧ x < 1024 := by decide
  exact ⟨(a1 _ h1).1, (a1 _ h1).2, (a2 _ h2).1, (a2 _ h2).2⟩
theorem rows_dat {V : Mem} {rs : List Row} {lb : Nat} (h : RowsOk rs) (hl : 10 ≤ lb) : DatL V (rs.map rowD) (46 * rs.length) 1 lb := by
  have := DatL.all (M := V) (c := 44) (h := 1) (lb := lb) (xs := rs.map rowD) fun x hx => by
    obtain ⟨r, hr, rfl⟩ := List.mem_map.mp hx
    obtain ⟨h1, h2, h3, h4⟩ := h r hr
    exact row_dat (by omega) (by omega) hl
  rw [List.length_map] at this
  exact this
theorem hands_dat {V : Mem} {rs : List Row} {lb : Nat} (h : RowsOk rs) (hl : 10 ≤ lb) : DatL V ((hands rs).map D.int) (13 * (hands rs).length) 0 lb := by
  have := DatL.all (M := V) (c := 11) (h := 0) (lb := lb) (xs := (hands rs).map D.int) fun x hx => by
    obtain ⟨i, hi, rfl⟩ := List.mem_map.mp hx
    obtain ⟨r, hr, rfl⟩ := hands_mem.mp hi
    obtain ⟨h1, h2, _⟩ := h r hr
    have := log_lt (n := r.h.natAbs) (k := 10) (by omega) (by decide)
    exact Dat.of_int (by omega) (by omega)
  rw [List.length_map] at this
  exact this
theorem hands_len {rs : List Row} : (hands rs).length ≤ rs.length := by
  have := nodup_short (l := hands rs) (m := rs.map (·.h)) (List.nodup_iff_pairwise_ne.mpr ((hands_lt rs).imp fun h => Int.ne_of_lt h)) fun x hx => by unfold hands at hx; exact setI_mem.mp hx
  rwa [List.length_map] at this
/-- one thing looked at -/
theorem look_run {n : Nat} {M : Mem} {x0 x1 x2 x3 x4 x5 x7 x8 x9 x10 x11 : Option D} {d : D} {c h lb : Nat} {Q : Fl × Ev × Mem → Prop} (k : Dat M d c h lb) (hc : c ≤ 1000000) (hh : h ≤ 60) (hl : lb ≤ 1900)
    (w : ∀ y M', Gw M M' → Q (.nx, [x0, x1, x2, x3, x4, x5, some d, y, x8, x9, x10, x11], M')) :
    Run (evSs g (callF g (n + 3)) (.cons (.asg (.nm 7) (.bi .repr (.cons (.var 6) .nil))) f11_2) [x0, x1, x2, x3, x4, x5, some d, x7, x8, x9, x10, x11] M) Q := by
  refine run_cons ?_
  simp [evSs, evS, ev, evs, evV, evT, evTs, evp, evI, evO, evG, run_ok, run_bind, run_when, run_of]
  refine run_repr k (by omega) (by omega) (by omega) fun p hp => ?_
  simp
  refine run_cons ?_
  simp [evSs, evS, ev, evs, evV, evT, evTs, evp, evI, evO, evG, run_ok, run_bind, run_when, run_of]
  refine weaving_run k (by omega) (by omega) fun M1 g1 => ?_
  simp
  refine run_reprB ?_
  simp
  refine own_run (k.gw g1) (by omega) (by omega) ?_
  simp
  refine run_reprB ?_
  simp [ne_self, truth]
  refine run_repr (k.gw g1) (by omega) (by omega) (by omega) fun p2 hp2 => ?_
  have : p2 = p := Py.det hp2 (hp.gl g1.gl)
  subst this
  simp [ne_self]
  exact w _ _ g1
theorem deeds_rr {M : Mem} (a b : Bool) : cmpD M .ne (.str (deedS a ++ deedS b)) (.str "rr") = some (a || b) := by
  show some (!((deedS a ++ deedS b) == Str.ofString "rr")) = _
  clear M
  cases a <;> cases b <;> decide +kernel
theorem deed_len (a : Bool) : (deedS a).length = 1 := by cases a <;> decide +kernel
/-- two rows looked at -/
theorem pair_run {n : Nat} {M : Mem} {x0 x1 x3 x4 x5 x6 x7 x10 x11 : Option D} {rs : List Row} {k : Int} {r s : Row} {Q : Fl × Ev × Mem → Prop} (hk : atI (rs.map rowD) k = some (rowD r))
    (w : ∀ y z, Q (.nx, [x0, x1, some (.tup (rs.map rowD)), x3, x4, x5, x6, x7, some (.int k), some (rowD s), y, z], M)) :
    Run (evSs g (callF g (n + 1)) (.cons (.asg (.nm 10) (.idx (.var 2) (.var 8))) f11_5) [x0, x1, some (.tup (rs.map rowD)), x3, x4, x5, x6, x7, some (.int k), some (rowD s), x10, x11] M) Q := by
  have i0 : ∀ r : Row, idxD M (rowD r) (.int 0) = some (.int r.h) := fun _ => rfl
  have i1 : ∀ r : Row, idxD M (rowD r) (.int 1) = some (.str (deedS r.w)) := fun _ => rfl
  have i2 : ∀ r : Row, idxD M (rowD r) (.int 2) = some (.int r.c) := fun _ => rfl
  have ik : idxD M (.tup (rs.map rowD)) (.int k) = some (rowD r) := hk
  generalize D.tup (rs.map rowD) = R at ik w ⊢
  refine run_cons ?_
  simp [evSs, evS, ev, evs, evV, evT, evTs, evp, evI, evO, evG, run_ok, run_bind, run_when, run_of, ik]
  refine run_cons ?_
  have m1 : Run (evS g (callF g (n + 1)) (.asg (.nm 11) (.bool true (.cons (.cmp .ne (.idx (.var 10) (.lit (.int 0))) (.idx (.var 9) (.lit (.int 0)))) (.cons (.cmp .eq (.idx (.var 10) (.lit (.int 2))) (.idx (.var 9) (.lit (.int 2)))) .nil)))) [x0, x1, some R, x3, x4, x5, x6, x7, some (.int k), some (rowD s), some (rowD r), x11] M)
      fun q => q = (.nx, [x0, x1, some R, x3, x4, x5, x6, x7, some (.int k), some (rowD s), some (rowD r), some (.bl (!decide (r.h = s.h) && decide (r.c = s.c)))], M) := by
    by_cases h1 : r.h = s.h
    · simp [evSs, evS, ev, evs, evV, evT, evTs, evp, evI, evO, evG, run_ok, run_bind, run_when, run_of, Lit.d, i0, cmpD, eq_int, h1]
    · have h1' : (r.h == s.h) = false := beq_eq_false_iff_ne.mpr h1
      by_cases h2 : r.c = s.c
      · simp [evSs, evS, ev, evs, evV, evT, evTs, evp, evI, evO, evG, run_ok, run_bind, run_when, run_of, Lit.d, i0, i2, cmpD, eq_int, h1, h2]
      · have h2' : (r.c == s.c) = false := beq_eq_false_iff_ne.mpr h2
        simp [evSs, evS, ev, evs, evV, evT, evTs, evp, evI, evO, evG, run_ok, run_bind, run_when, run_of, Lit.d, i0, i2, cmpD, eq_int, h1, h2, h2']
  refine m1.mono ?_
  rintro _ rfl
  show Run (evSs g (callF g (n + 1)) f11_4 _ M) _
  refine run_cons ?_
  have e : touchB r s = ((!decide (r.h = s.h) && decide (r.c = s.c)) && (r.w || s.w)) := by unfold touchB; rw [Bool.and_assoc]
  generalize (!decide (r.h = s.h) && decide (r.c = s.c)) = b at e ⊢
  have lr := deed_len r.w
  have ls := deed_len s.w
  have m2 : Run (evS g (callF g (n + 1)) (.asg (.nm 11) (.bool true (.cons (.var 11) (.cons (.cmp .ne (.bin .add (.idx (.var 10) (.lit (.int 1))) (.idx (.var 9) (.lit (.int 1)))) (.lit (.str "rr"))) .nil)))) [x0, x1, some R, x3, x4, x5, x6, x7, some (.int k), some (rowD s), some (rowD r), some (.bl b)] M)
      fun q => q = (.nx, [x0, x1, some R, x3, x4, x5, x6, x7, some (.int k), some (rowD s), some (rowD r), some (.bl (touchB r s))], M) := by
    rw [e]
    cases b with
    | false => simp [evSs, evS, ev, evs, evV, evT, evTs, evp, evI, evO, evG, run_ok, run_bind, run_when, run_of]
    | true =>
      simp [evSs, evS, ev, evs, evV, evT, evTs, evp, evI, evO, evG, run_ok, run_bind, run_when, run_of, Lit.d, i1, binD, lr, ls, sizeLine_eq, deeds_rr]
      cases r.w <;> cases s.w <;> simp
  refine m2.mono ?_
  rintro _ rfl
  show Run (evSs g (callF g (n + 1)) f11_3 _ M) _
  refine run_cons ?_
  simp [evSs, evS, ev, evs, evV, evT, evTs, evp, evI, evO, evG, run_ok, run_bind, run_when, run_of]
  refine touch_run ?_
  simp
  refine run_reprB ?_
  simp
  refine run_reprB ?_
  simp [ne_self, truth]
  exact w _ _
end Lw

namespace Lw
open PySem L2 Cp
theorem cut_sub {xs : List D} {lo hi : Option Int} {x : D} (h : x ∈ cutL xs lo hi) : x ∈ xs := by
  unfold cutL at h
  exact List.mem_of_mem_drop (List.mem_of_mem_take h)
theorem py_pure {M M' : Mem} {ns : List Int} {p p' : PyData} (h : Py M (.tup (ns.map D.int)) p) (h' : Py M' (.tup (ns.map D.int)) p') : p = p' := by
  have key : ∀ {M : Mem} (ns : List Int), PyAll M (ns.map D.int) (ns.map PyData.int) := fun {M} ns => by
    induction ns with
    | nil => exact .nil
    | cons i l ih => exact .cons (.int i) ih
  rw [Py.det h (.tup (key ns)), Py.det h' (.tup (key ns))]
theorem at_lt {M L : Mem} {i : Nat} {o : MO} (e : M[i]? = some o) : (M ++ L)[i]? = some o := gwA _ _ e
/-- the rows looked at -/
theorem rows_end {n : Nat} {M : Mem} {x0 x1 x3 x4 x5 x6 x7 : Option D} {rs : List Row} (ok : RowsOk rs) (hl : rs.length ≤ 60) :
    Run (evSs g (callF g (n + 2)) f11_8 [x0, x1, some (.tup (rs.map rowD)), x3, x4, x5, x6, x7, none, none, none, none] M) fun q => match q.1 with | .rt d => d = .bl true | _ => False := by
  have hh := hands_len (rs := rs)
  refine run_cons ?_
  simp [evSs, evS, ev, evs, evV, evT, evTs, evp, evI, evO, evG, run_ok, run_bind, run_when, run_of]
  refine hands_of_run (by omega) fun M1 g1 => ?_
  simp
  refine run_repr (Dat.tup (hands_dat (lb := 10) ok (by decide))) (by omega) (by omega) (by omega) fun p hp => ?_
  simp
  refine hands_run (by omega) fun i M2 e2 g2 => ?_
  have tb : biD M2 .tuple [.ref i] = .ok (.tup ((hands rs).map D.int), M2) := by simp [biD, itemsD, e2]
  simp [tb]
  refine run_repr (Dat.tup (hands_dat (lb := 10) ok (by decide))) (by omega) (by omega) (by omega) fun p2 hp2 => ?_
  have : p2 = p := py_pure hp2 hp
  subst this
  simp [ne_self, truth, sizeLine_eq]
  refine hands_of_run (rs := []) (by decide) fun M3 g3 => ?_
  have h0 : (hands []).map D.int = [] := by
    have : hands [] = [] := List.eq_nil_iff_forall_not_mem.mpr fun x hx => by
      obtain ⟨r, hr, _⟩ := hands_mem.mp hx
      cases hr
    rw [this]; rfl
  rw [h0]
  have en := eq_nilT (M := M3) (xs := []) (c := 0) (h := 0) (lb := 10) DatL.nil (by decide)
  simp [cmpD, en]
  -- each two of them
  have lm : (rs.map rowD).length = rs.length := List.length_map ..
  generalize hds : rs.map rowD = ds at lm
  have hk : ∃ k : Int, (if (ds.length : Int) < 9 then (ds.length : Int) else 9) = k ∧ 0 ≤ k ∧ k ≤ 9 ∧ k ≤ ds.length := ⟨_, rfl, by split <;> omega, by split <;> omega, by split <;> omega⟩
  obtain ⟨k, hk, k0, k9, kl⟩ := hk
  have ek : ev g (callF g (n + 2)) (.bi .min (.cons (.lit (.int 9)) (.cons (.bi .len (.cons (.var 2) .nil)) .nil))) [x0, x1, some (.tup ds), x3, x4, x5, x6, x7, none, none, none, none] M3 = .ok (.int k, M3) := by
    simp [ev, evs, Lit.d, biD, lenD, hk]
  refine run_cons (run_frR (Run.of_eq ek ⟨k, rfl, rng_ok k0 (by omega), ?_⟩))
  have lr := rng_len k
  refine run_for (fun t st M' => ∃ x8 x9 x10 x11, st = [x0, x1, some (.tup ds), x3, x4, x5, x6, x7, x8, x9, x10, x11]) (by omega) ⟨none, none, none, none, rfl⟩ (fun t d st M' et ⟨x8, x9, x10, x11, e⟩ => ?_) fun st M' ⟨x8, x9, x10, x11, e⟩ => ?_
  · subst e
    have ht := (List.getElem?_eq_some_iff.mp et).1
    rw [lr] at ht
    have hd : d = .int (t : Nat) := by
      unfold rngD at et
      rw [List.getElem?_map, List.getElem?_range (by omega)] at et
      cases et
      exact congrArg D.int (Int.zero_add _)
    subst hd
    obtain ⟨r, hr⟩ : ∃ r, rs[t]? = some r := ⟨_, List.getElem?_eq_getElem (by omega)⟩
    have hat : atI ds (t : Int) = some (rowD r) := by
      obtain ⟨x, e1, e2⟩ := atI_mem (xs := ds) (i := (t : Int)) (by omega) (by omega)
      rw [e1]
      have e2 : ds[t]? = some x := e2
      rw [← hds, List.getElem?_map, hr] at e2
      exact e2.symm
    refine run_ok.mpr (run_cons (run_frT (Run.of_eq (x := (.tup (cutL ds none (some 9)), M')) (by simp [ev, evO, Lit.d, slcD]) ⟨_, rfl, ?_⟩)))
    have lc : (cutL ds none (some 9)).length ≤ ds.length := by unfold cutL; rw [List.length_take, List.length_drop]; omega
    refine run_for (fun u st M' => ∃ x9 x10 x11, st = [x0, x1, some (.tup ds), x3, x4, x5, x6, x7, some (.int (t : Nat)), x9, x10, x11]) (by omega) ⟨x9, x10, x11, rfl⟩ (fun u d2 st M' eu ⟨x9, x10, x11, e⟩ => ?_) fun st M' ⟨x9, x10, x11, e⟩ => ?_
    · subst e
      have hm := cut_sub (List.mem_of_getElem? eu)
      rw [← hds] at hm
      obtain ⟨s, hs, rfl⟩ := List.mem_map.mp hm
      subst hds
      refine run_ok.mpr ((pair_run (n := n + 1) (Q := fun q => ∃ y z, q = (.nx, [x0, x1, some (.tup (rs.map rowD)), x3, x4, x5, x6, x7, some (.int (t : Nat)), some (rowD s), y, z], M')) hat fun y z => ⟨y, z, rfl⟩).mono ?_)
      rintro _ ⟨y, z, rfl⟩
      exact ⟨_, _, _, rfl⟩
    · subst e
      exact run_nil ⟨_, _, _, _, rfl⟩
  · subst e
    show Run (evSs g (callF g (n + 2)) f11_6 _ M') _
    refine run_cons ?_
    simp [evSs, evS, ev, evs, evV, evT, evTs, evp, evI, evO, evG, run_ok, run_bind, run_when, run_of, Lit.d]
theorem law_run {n : Nat} {ns : List Int} (hn : ns.length ≤ 63) : Run (callF g (n + 10) 11 [.frl (ns.map .int)] []) fun z => z.1 = .bl true := by
  refine run_call [.frl (ns.map .int)] (F := f11) rfl rfl ?_
  refine run_rt (Q := fun z => z.1 = .bl true) ?_
  show Run (evSs g (callF g (n + 9)) _ [some (.frl (ns.map .int)), none, none, none, none, none, none, none, none, none, none, none] []) _
  refine run_cons ?_
  simp [evSs, evS, ev, evs, evV, evT, evTs, evp, evI, evO, evG, run_ok, run_bind, run_when, run_of]
  refine tape_run hn fun M a hf => ?_
  simp
  generalize D.frl (ns.map D.int) = sc
  refine run_cons ?_
  simp [evSs, evS, ev, evs, evV, evT, evTs, evp, evI, evO, evG, run_ok, run_bind, run_when, run_of, Lit.d]
  refine pick_run hf (by omega) (by decide) (by decide) fun r0 M1 r00 r01 hf1 g1 => ?_
  -- how many rows
  have go : ∀ mr : Int, 0 ≤ mr → mr ≤ 40 → Run (callF g (n + 9) 7 [.ref a, .int 5, .int mr] M1) fun x => Run (evSs g (callF g (n + 9)) f11_13 [some sc, some (.ref a), some x.1, none, none, none, none, none, none, none, none, none] x.2) fun q => match q.1 with | .rt d => d = .bl true | _ => False := by
    intro mr m0 m1
    refine rows_run hf1 (by omega) (by decide) (by decide) m0 m1 fun rs M2 lr hr hf2 g2 => ?_
    have ok := rowsOk_of hr
    have lrs : rs.length ≤ 40 := by omega
    have dR : ∀ V : Mem, Dat V (.tup (rs.map rowD)) 1900 2 250 := fun V => Dat.of_tup (rows_dat (lb := 250) ok (by decide)) (by omega) (by omega)
    have dRl : ∀ V : Mem, DatL V (rs.map rowD) 1880 1 250 := fun V => (rows_dat (lb := 250) ok (by decide)).mono (by omega) (by omega)
    have fin := fun (n : Nat) M x3 x4 x5 x6 x7 => rows_end (n := n) (M := M) (x0 := some sc) (x1 := some (.ref a)) (x3 := x3) (x4 := x4) (x5 := x5) (x6 := x6) (x7 := x7) ok (by omega : rs.length ≤ 60)
    simp
    generalize rs.map rowD = ds at dR dRl fin ⊢
    have la := hf2.lt
    obtain ⟨S, hSa, hSn⟩ : ∃ S : Nat → Bool, S a = true ∧ ∀ i, i ≠ a → S i = false := ⟨fun i => i == a, by simp, fun i h => beq_eq_false_iff_ne.mpr h⟩
    have hS : ∀ i, M2.length ≤ i → S i = false := fun i h => hSn i (by omega)
    have i0 : ∀ {V : Mem} {c h : Nat}, 2 ≤ c → Dat V (.int 0) c h 300 := fun h => c_int (by decide +kernel) h (by decide)
    have s1 : ∀ {V : Mem} {c h : Nat} {s : String}, (Str.ofString s).length = 1 → 12 ≤ c → Dat V (.str (Str.ofString s)) c h 300 := fun e h => c_str e h
    have t3 : ∀ {V : Mem} {x y z : D}, Dat V x 250 2 300 → Dat V y 250 2 300 → Dat V z 250 2 300 → Dat V (.tup [.tup [x, y, z]]) 200000 5 300 := fun h1 h2 h3 =>
      Dat.of_tup (DatL.one (Dat.of_tup (c := 1000) (h := 3) (DatL.cons h1 (DatL.cons h2 (DatL.one h3))) (by omega) (by omega))) (by omega) (by omega)
    refine run_cons ?_
    simp [evSs, evS, ev, evs, evV, evT, evTs, evp, evI, evO, evG, run_ok, run_bind, run_when, run_of, Lit.d, biD, itemsD, newM, sizeLine_eq]
    -- fifteen things, one by one
    have hL : ∀ x ∈ ([.tup ds, .tup [], .non, .ref M2.length, .ref (M2.length + 1), .tup [.int 1], .tup [.tup []], .tup [.tup [.int 0, .str (Str.ofString "r"), .int 0]], .tup [.tup [.int 0, .str (Str.ofString "r")]], .tup [.tup [.int 0, .str (Str.ofString "x"), .int 0]]] : List D),
        Dat (vw S (M2 ++ [MO.lst [], MO.lst ds, MO.lst [.tup ds, .tup [], .non, .ref M2.length, .ref (M2.length + 1), .tup [.int 1], .tup [.tup []], .tup [.tup [.int 0, .str (Str.ofString "r"), .int 0]], .tup [.tup [.int 0, .str (Str.ofString "r")]], .tup [.tup [.int 0, .str (Str.ofString "x"), .int 0]]]])) x 200000 5 300 := by
      intro x hx
      simp only [List.mem_cons, List.not_mem_nil, or_false] at hx
      rcases hx with rfl | rfl | rfl | rfl | rfl | rfl | rfl | rfl | rfl | rfl
      · exact ((dR _).mono (by omega) (by omega)).low (by decide)
      · exact Dat.of_tup (DatL.nil (lb := 300)) (by omega) (by omega)
      · exact Dat.of_non (by omega)
      · exact Dat.of_lst (vw_new hS (by omega) at0) (DatL.nil (lb := 300)) (by omega) (by omega)
      · exact Dat.of_lst (vw_new hS (by omega) at1) ((dRl _).low (show 250 ≤ 300 by decide)) (by omega) (by omega)
      · exact Dat.of_tup (DatL.one (c := 2) (h := 0) (c_int (by decide +kernel) (by omega) (by omega))) (by omega) (by omega)
      · exact Dat.of_tup (DatL.one (Dat.of_tup (c := 5) (h := 1) (DatL.nil (lb := 300)) (by omega) (by omega))) (by omega) (by omega)
      · exact t3 (i0 (by omega)) (s1 (by decide +kernel) (by omega)) (i0 (by omega))
      · exact Dat.of_tup (DatL.one (Dat.of_tup (c := 1000) (h := 3) (DatL.cons (i0 (c := 2) (h := 0) (by omega)) (DatL.one (s1 (c := 12) (h := 0) (s := "r") (by decide +kernel) (by omega)))) (by omega) (by omega))) (by omega) (by omega)
      · exact t3 (i0 (by omega)) (s1 (by decide +kernel) (by omega)) (i0 (by omega))
    generalize hL0 : ([.tup ds, .tup [], .non, .ref M2.length, .ref (M2.length + 1), .tup [.int 1], .tup [.tup []], .tup [.tup [.int 0, .str (Str.ofString "r"), .int 0]], .tup [.tup [.int 0, .str (Str.ofString "r")]], .tup [.tup [.int 0, .str (Str.ofString "x"), .int 0]]] : List D) = L0 at hL ⊢
    have lL0 : L0.length = 10 := by rw [← hL0]; rfl
    have e3 : (M2 ++ [MO.lst [], MO.lst ds, MO.lst L0])[M2.length + 1 + 1]? = some (.lst L0) := at2
    have hf3 : Tape (M2 ++ [MO.lst [], MO.lst ds, MO.lst L0]) a 151 := hf2.gw gwA
    have l3 : M2.length + 1 + 1 < (M2 ++ [MO.lst [], MO.lst ds, MO.lst L0]).length := by rw [List.length_append]; show _ < _ + 3; omega
    clear hL0 hS
    have la3 : a < M2.length + 1 + 1 := by omega
    generalize M2 ++ [MO.lst [], MO.lst ds, MO.lst L0] = M3 at hL e3 hf3 l3 ⊢
    generalize M2.length + 1 + 1 = t at e3 l3 la3 ⊢
    have up : ∀ {M : Mem} {L : Mem} {x : D}, Dat (vw S M) x 200000 5 300 → Dat (vw S (M ++ L)) x 200000 5 300 := fun k => k.gl (Gl.vw gwA.gl)
    refine run_cons ?_
    simp [evSs, evS, ev, evs, evV, evT, evTs, evp, evI, evO, evG, run_ok, run_bind, run_when, run_of, Lit.d, newM, sizeLine_eq, binD, at0, at_lt e3, lL0]
    have hL1 : ∀ x ∈ L0 ++ ([.tup [.tup [.bl true, .str (Str.ofString "r"), .int 0]], .tup [.tup [.int 0, .str (Str.ofString "w"), .bl false]], .tup [.tup [.int (-1), .str (Str.ofString "w"), .int 0]]] : List D), ∀ N, Dat (vw S (M3 ++ N)) x 200000 5 300 := by
      intro x hx N
      rcases List.mem_append.mp hx with hx | hx
      · exact up (hL x hx)
      simp only [List.mem_cons, List.not_mem_nil, or_false] at hx
      rcases hx with rfl | rfl | rfl
      · exact t3 (Dat.of_bl (by omega)) (s1 (by decide +kernel) (by omega)) (i0 (by omega))
      · exact t3 (i0 (by omega)) (s1 (by decide +kernel) (by omega)) (Dat.of_bl (by omega))
      · exact t3 (c_int (by decide +kernel) (by omega) (by omega)) (s1 (by decide +kernel) (by omega)) (i0 (by omega))
    generalize hT : ([.tup [.tup [.bl true, .str (Str.ofString "r"), .int 0]], .tup [.tup [.int 0, .str (Str.ofString "w"), .bl false]], .tup [.tup [.int (-1), .str (Str.ofString "w"), .int 0]]] : List D) = T at hL1 ⊢
    have lL1 : (L0 ++ T).length = 13 := by rw [← hT, List.length_append, lL0]; rfl
    have e4 : (M3 ++ [MO.lst T, MO.lst (L0 ++ T)])[M3.length + 1]? = some (.lst (L0 ++ T)) := at1
    have hf4 : Tape (M3 ++ [MO.lst T, MO.lst (L0 ++ T)]) a 151 := hf3.gw gwA
    have hL1 := fun x hx => hL1 x hx [MO.lst T, MO.lst (L0 ++ T)]
    have l4 : M3.length + 1 < (M3 ++ [MO.lst T, MO.lst (L0 ++ T)]).length := by rw [List.length_append]; show _ < _ + 2; omega
    have la4 : a < M3.length + 1 := by omega
    clear hT hL e3 hf3 
    generalize L0 ++ T = L1 at hL1 lL1 e4 hf4 l4 ⊢
    generalize M3 ++ [MO.lst T, MO.lst L1] = M4 at hL1 e4 hf4 l4 ⊢
    generalize M3.length + 1 = t4 at e4 l4 la4 ⊢
    refine run_cons ?_
    simp [evSs, evS, ev, evs, evV, evT, evTs, evp, evI, evO, evG, run_ok, run_bind, run_when, run_of, Lit.d, newM, sizeLine_eq, binD, pow60, at_lt e4, lL1, at1]
    have big : (1000000000000000000000000000000000000000000000000000000000000 : Int).natAbs.log2 = 199 := by decide +kernel
    have hS4 : ∀ i, M4.length ≤ i → S i = false := fun i h => hSn i (by omega)
    have e9 : (9 : Int).natAbs.log2 = 3 := by decide +kernel
    have i9 : ∀ {V : Mem} {c h : Nat}, 6 ≤ c → Dat V (.int 9) c h 300 := fun h => Dat.of_int (by omega) (by omega)
    have hL2 : ∀ x ∈ L1 ++ ([.tup [.ref M4.length], .tup [.tup [.int 1000000000000000000000000000000000000000000000000000000000000, .str (Str.ofString "w"), .int 9]]] : List D), ∀ N, Dat (vw S (M4 ++ MO.lst [.int 0, .str (Str.ofString "w"), .int 0] :: N)) x 200000 5 300 := by
      intro x hx N
      rcases List.mem_append.mp hx with hx | hx
      · exact up (hL1 x hx)
      simp only [List.mem_cons, List.not_mem_nil, or_false] at hx
      rcases hx with rfl | rfl
      · exact Dat.of_tup (DatL.one (Dat.of_lst (c := 1000) (h := 3) (vw_new hS4 (by omega) at0) (DatL.cons (i0 (c := 2) (h := 0) (by omega)) (DatL.cons (s1 (c := 12) (h := 0) (s := "w") (by decide +kernel) (by omega)) (DatL.one (i0 (c := 2) (h := 0) (by omega))))) (by omega) (by omega))) (by omega) (by omega)
      · exact t3 (Dat.of_int (by omega) (by omega)) (s1 (by decide +kernel) (by omega)) (i9 (by omega))
    generalize hT : ([.tup [.ref M4.length], .tup [.tup [.int 1000000000000000000000000000000000000000000000000000000000000, .str (Str.ofString "w"), .int 9]]] : List D) = T at hL2 ⊢
    have lL2 : (L1 ++ T).length = 15 := by rw [← hT, List.length_append, lL1]; rfl
    have e5 : (M4 ++ [MO.lst [.int 0, .str (Str.ofString "w"), .int 0], MO.lst T, MO.lst (L1 ++ T)])[M4.length + 1 + 1]? = some (.lst (L1 ++ T)) := at2
    have hf5 : Tape (M4 ++ [MO.lst [.int 0, .str (Str.ofString "w"), .int 0], MO.lst T, MO.lst (L1 ++ T)]) a 151 := hf4.gw gwA
    have hL2 := fun x hx => hL2 x hx [MO.lst T, MO.lst (L1 ++ T)]
    have la5 : a < M4.length + 1 + 1 := by omega
    clear hT hL1 e4 hf4 hS4
    generalize L1 ++ T = L2 at hL2 lL2 e5 hf5 ⊢
    generalize M4 ++ [MO.lst [.int 0, .str (Str.ofString "w"), .int 0], MO.lst T, MO.lst L2] = M5 at hL2 e5 hf5 ⊢
    generalize M4.length + 1 + 1 = t5 at e5 la5 ⊢
    -- eight laps
    have rg8 : rngOk 0 8 = true := by decide
    refine run_cons (run_frR (Run.of_eq (x := (.int 8, M5)) rfl ⟨8, rfl, rg8, ?_⟩))
    have l8 : (rngD 0 8).length = 8 := by decide +kernel
    obtain ⟨I, hI⟩ : ∃ I : Nat → Ev → Mem → Prop, ∀ i st M', I i st M' ↔ ∃ (v4 v5 : Option D) (t : Nat) (L : List D), st = [some sc, some (.ref a), some (.tup ds), some (.ref t), v4, v5, none, none, none, none, none, none] ∧ M'[t]? = some (.lst L) ∧ a < t ∧ L.length = 15 + 2 * i ∧ (∀ x ∈ L, Dat (vw S M') x 200000 5 300) ∧ Tape M' a (151 + 40 * i) := ⟨_, fun _ _ _ => Iff.rfl⟩
    refine run_for I (by omega) ((hI _ _ _).mpr ⟨none, none, t5, L2, rfl, e5, la5, lL2, hL2, hf5⟩) (fun i d st M' ei hh => ?_) fun st M' hh => ?_
    · obtain ⟨v4, v5, t, L, rfl, q1, q2, q3, q4, q5⟩ := (hI _ _ _).mp hh
      have hi := (List.getElem?_eq_some_iff.mp ei).1
      have la := q5.lt
      refine run_ok.mpr (run_cons ?_)
      simp [evSs, evS, ev, evs, evV, evT, evTs, evp, evI, evO, evG, run_ok, run_bind, run_when, run_of]
      refine bent_run (S := S) 2 (n + 5) q5 (by omega) (dR _) (by decide) (by decide) (by decide) (by decide) hSa (fun i h => hSn i (by omega)) fun d1 N1 p1 p2 p3 => ?_
      have la := p2.lt
      simp
      refine run_cons ?_
      simp [evSs, evS, ev, evs, evV, evT, evTs, evp, evI, evO, evG, run_ok, run_bind, run_when, run_of]
      refine bent_run (S := S) 3 (n + 4) p2 (by omega) p1 (by decide) (by decide) (by decide) (by decide) hSa (fun i h => hSn i (by omega)) fun d2 N2 p4 p5 p6 => ?_
      have la := p5.lt
      have qt := p6 _ _ (by omega) (p3 _ _ (by omega) q1)
      simp [newM, sizeLine_eq, binD, at_lt qt, at0]
      refine ⟨by omega, (hI _ _ _).mpr ⟨_, _, _, L ++ [d1, d2], rfl, at1, by omega, by rw [List.length_append, q3]; show _ + 2 = _; omega, fun x hx => ?_, (p5.gw gwA).mono (by omega)⟩⟩
      rcases List.mem_append.mp hx with hx | hx
      · exact up ((q4 x hx).gl (vw_tape (p3.trans p6) hSa))
      simp only [List.mem_cons, List.not_mem_nil, or_false] at hx
      rcases hx with rfl | rfl
      · exact (((p1.gl (vw_tape p6 hSa)).gl (Gl.vw gwA.gl)).mono (by omega) (by omega)).low (by decide)
      · exact ((p4.gl (Gl.vw gwA.gl)).mono (by omega) (by omega)).low (by decide)
    · obtain ⟨v4, v5, t, L, rfl, q1, q2, q3, q4, q5⟩ := (hI _ _ _).mp hh
      rw [l8] at q3 q5
      show Run (evSs g (callF g (n + 9)) f11_9 _ M') _
      refine run_cons (run_frL (Run.of_eq (x := (.ref t, M')) rfl ⟨t, L, rfl, q1, ?_⟩))
      refine run_forL (xs := L) (fun i st N => ∃ v6 v7, st = [some sc, some (.ref a), some (.tup ds), some (.ref t), v4, v5, v6, v7, none, none, none, none] ∧ Gw M' N) (by omega) ⟨none, none, rfl, .refl⟩ (fun i st N ⟨_, _, _, gg⟩ => gg _ _ q1) (fun i d st N ei ⟨v6, v7, e1, gg⟩ => ?_) fun st N ⟨v6, v7, e1, gg⟩ => ?_
      · subst e1
        have kd := ((q4 d (List.mem_of_getElem? ei)).gl vw_self).gw gg
        refine run_ok.mpr ((look_run (n := n + 6) (Q := fun q => ∃ y N2, q = (.nx, [some sc, some (.ref a), some (.tup ds), some (.ref t), v4, v5, some d, y, none, none, none, none], N2) ∧ Gw M' N2) kd (by decide) (by decide) (by decide) fun y N2 g2 => ⟨y, N2, rfl, gg.trans g2⟩).mono ?_)
        rintro _ ⟨y, N2, rfl, g2⟩
        exact ⟨_, _, rfl, g2⟩
      · subst e1
        exact fin (n + 7) N _ _ _ _ _
  by_cases h0 : r0 = 0
  · subst h0
    simp [cmpD, eq_int, truth]
    exact go 40 (by decide) (by decide)
  · have h0' : (r0 == 0) = false := beq_eq_false_iff_ne.mpr h0
    simp [cmpD, eq_int, truth, h0']
    exact go 12 (by decide) (by decide)
def deep : Nat := 20
theorem run : ∀ ns : List Int, ns.length ≤ 63 → (∀ z ∈ ns, Builtin.Int.intBits z ≤ 1048576) → ∃ M', callF g deep 11 [.frl (ns.map .int)] [] = .ok (.bl true, M') := fun ns hn _ => by
  obtain ⟨z, e, h⟩ := law_run (n := 10) hn
  obtain ⟨z1, M'⟩ := z
  have h : z1 = .bl true := h
  subst h
  exact ⟨M', e⟩
end Lw

open PySem PySem.W PyProof.Rows in
set_option maxRecDepth 100000 in
set_option maxHeartbeats 0 in
theorem PySem.Challenge.cw_cellpacts_k37_weavings_holds : PySem.Challenge.rw_cellpacts_k37_weavings.Holds := by
  w_on; o_law; k_head; (case hw => w_witness2)
  k_fill
  refine Cp.law_walk (l := PySem.Challenge.rw_cellpacts_k37_weavings) (G := Lw.g) (D := Lw.f11) (k := Lw.deep) (f := 11) (x := "_law_script") rfl rfl ⟨rfl, by decide, by decide⟩ rfl rfl rfl (fun w h Y => PySem.W.kIn_of Y) ?F Lw.run
  case F =>
    intro w mg h X N
    refine' Lw.all_mk X N ?a0 ?l0 ?c0 ?k0 ?a1 ?l1 ?c1 ?k1 ?a2 ?l2 ?c2 ?k2 ?a3 ?l3 ?c3 ?k3 ?a4 ?l4 ?c4 ?k4 ?a5 ?l5 ?c5 ?k5 ?a6 ?l6 ?c6 ?k6 ?a7 ?l7 ?c7 ?k7 ?a8 ?l8 ?c8 ?k8 ?a9 ?l9 ?c9 ?k9 ?a10 ?l10 ?c10 ?k10 ?a11 ?l11 ?c11 ?k11 ?gl0 ?lk0 ?vl0 ?z0 ?z1 ?z2 ?z3 ?z4 ?z5 ?z6 ?z7 ?z8 ?z9 ?z10 ?z11 ?z12 ?z13 ?z14 ?z15 ?z16 ?z17
    (case a0 => k_is)
    (case l0 => k_is)
    (case c0 => k_is)
    (case k0 => k_is)
    (case a1 => k_is)
    (case l1 => k_is)
    (case c1 => k_is)
    (case k1 => k_is)
    (case a2 => k_is)
    (case l2 => k_is)
    (case c2 => k_is)
    (case k2 => k_is)
    (case a3 => k_is)
    (case l3 => k_is)
    (case c3 => k_is)
    (case k3 => k_is)
    (case a4 => k_is)
    (case l4 => k_is)
    (case c4 => k_is)
    (case k4 => k_is)
    (case a5 => k_is)
    (case l5 => k_is)
    (case c5 => k_is)
    (case k5 => k_is)
    (case a6 => k_is)
    (case l6 => k_is)
    (case c6 => k_is)
    (case k6 => k_is)
    (case a7 => k_is)
    (case l7 => k_is)
    (case c7 => k_is)
    (case k7 => k_is)
    (case a8 => k_is)
    (case l8 => k_is)
    (case c8 => k_is)
    (case k8 => k_is)
    (case a9 => k_is)
    (case l9 => k_is)
    (case c9 => k_is)
    (case k9 => k_is)
    (case a10 => k_is)
    (case l10 => k_is)
    (case c10 => k_is)
    (case k10 => k_is)
    (case a11 => k_is)
    (case l11 => k_is)
    (case c11 => k_is)
    (case k11 => k_is)
    (case gl0 => k_is)
    (case lk0 => k_is)
    (case vl0 => exact .cons ⟨_, rfl⟩ (.cons ⟨_, rfl⟩ (.nil)))
    (case z0 => k_is)
    (case z1 => k_is)
    (case z2 => k_is)
    (case z3 => k_is)
    (case z4 => k_is)
    (case z5 => k_is)
    (case z6 => k_is)
    (case z7 => k_is)
    (case z8 => k_is)
    (case z9 => k_is)
    (case z10 => k_is)
    (case z11 => k_is)
    (case z12 => k_is)
    (case z13 => k_is)
    (case z14 => k_is)
    (case z15 => k_is)
    (case z16 => k_is)
    (case z17 => k_is)
