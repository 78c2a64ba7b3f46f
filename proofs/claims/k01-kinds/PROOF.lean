import PyProof.Rows.All
import Wide.All
import OpenK.AllK
import Wide.FinOn
import HandS.ForMost
import HandS.IsInst
import HandS.Wide
import HandS.TupAny
import HandS.Conv
import HandS.Small
import HandS.Style
import HandS.Deep
import HandS.Codes
import PyProof.TwoTypesSub
import HandS.EndBits
import PySem.Challenge.RW_cellpacts_k01_kinds
set_option Elab.async false
set_option linter.all false
set_option maxRecDepth 100000
set_option maxHeartbeats 4000000
/-! Values, memory, a compact syntax and its run. -/
namespace Cp
open PySem

/-- a value: tuples are pure (frl: a list that nobody may change), what may change is told by its number -/
inductive D where
  | non | bl (b : Bool) | int (i : Int) | str (x : Str) | tup (xs : List D) | frl (xs : List D) | ref (n : Nat)
  deriving Inhabited
/-- what may change: a list, a dict -/
inductive MO where
  | lst (xs : List D) | dct (kvs : List (L2.Key × D))
  deriving Inhabited
abbrev Mem := List MO
abbrev Ev := List (Option D)
structure Exn where
  cls : Str
  fs : List (Str × D)
inductive R (α : Type) where
  | ok (a : α) | exn (x : Exn) (M : Mem) | bad
def R.bind {α β : Type} : R α → (α → R β) → R β
  | .ok a, f => f a
  | .exn x M, _ => .exn x M
  | .bad, _ => .bad
@[simp] theorem R.bind_ok {α β : Type} (a : α) (f : α → R β) : (R.ok a).bind f = f a := rfl
@[simp] theorem R.bind_bad {α β : Type} (f : α → R β) : (R.bad : R α).bind f = .bad := rfl
@[simp] theorem R.bind_exn {α β : Type} (x : Exn) (M : Mem) (f : α → R β) : (R.exn x M : R α).bind f = .exn x M := rfl
abbrev RD := R (D × Mem)
/-- an option's value, else nothing is told -/
def R.of {α β : Type} : Option α → (α → R β) → R β
  | some a, f => f a
  | none, _ => .bad
@[simp] theorem R.of_some {α β : Type} (a : α) (f : α → R β) : R.of (some a) f = f a := rfl
@[simp] theorem R.of_none {α β : Type} (f : α → R β) : (R.of none f : R β) = .bad := rfl
/-- where a condition holds -/
def R.when {β : Type} (c : Prop) [Decidable c] (r : R β) : R β := if c then r else .bad
theorem R.when_pos {β : Type} {c : Prop} [Decidable c] {r : R β} (h : c) : R.when c r = r := if_pos h

/-! ### dicts -/
section
variable {κ : Type} [DecidableEq κ]
def lookD (kvs : List (κ × D)) (k : κ) : Option D := (kvs.find? fun kv => decide (kv.1 = k)).map (·.2)
def putD (kvs : List (κ × D)) (k : κ) (v : D) : List (κ × D) :=
  if (kvs.any fun kv => decide (kv.1 = k)) = true then kvs.map (fun kv => if kv.1 = k then (kv.1, v) else kv) else kvs ++ [(k, v)]
end
def keyD : D → Option L2.Key
  | .int i => some (.inl i)
  | .str x => some (.inr x)
  | _ => none
def dKey : L2.Key → D
  | .inl i => .int i
  | .inr x => .str x

/-! ### data as trees -/
mutual
inductive Py (M : Mem) : D → PyData → Prop
  | non : Py M .non .none
  | bl (b : Bool) : Py M (.bl b) (.bool b)
  | int (i : Int) : Py M (.int i) (.int i)
  | str (x : Str) : Py M (.str x) (.str x)
  | tup {xs : List D} {ps : List PyData} : PyAll M xs ps → Py M (.tup xs) (.tuple ps)
  | lst {a : Nat} {xs : List D} {ps : List PyData} : M[a]? = some (.lst xs) → PyAll M xs ps → Py M (.ref a) (.list ps)
  | frl {xs : List D} {ps : List PyData} : PyAll M xs ps → Py M (.frl xs) (.list ps)
inductive PyAll (M : Mem) : List D → List PyData → Prop
  | nil : PyAll M [] []
  | cons {x : D} {p : PyData} {xs : List D} {ps : List PyData} : Py M x p → PyAll M xs ps → PyAll M (x :: xs) (p :: ps)
end
mutual
theorem Py.det {M : Mem} : ∀ {q : PyData} {d : D} {p : PyData}, Py M d p → Py M d q → p = q
  | .none, _, _, h, .non => by cases h; rfl
  | .bool b, _, _, h, .bl _ => by cases h; rfl
  | .int i, _, _, h, .int _ => by cases h; rfl
  | .str x, _, _, h, .str _ => by cases h; rfl
  | .tuple ps, _, _, h, .tup k => by cases h with | tup k' => rw [PyAll.det k' k]
  | .list ps, _, _, h, .lst e k => by
    cases h with
    | lst e' k' => rw [e] at e'; cases e'; rw [PyAll.det k' k]
  | .list ps, _, _, h, .frl k => by cases h with | frl k' => rw [PyAll.det k' k]
theorem PyAll.det {M : Mem} : ∀ {qs : List PyData} {xs : List D} {ps : List PyData}, PyAll M xs ps → PyAll M xs qs → ps = qs
  | [], _, _, h, .nil => by cases h; rfl
  | q :: qs, _, _, h, .cons k ks => by
    cases h with
    | cons k' ks' => rw [Py.det k' k, PyAll.det ks' ks]
end
theorem PyAll.mem {M : Mem} : ∀ {xs : List D} {ps : List PyData}, PyAll M xs ps → ∀ x ∈ xs, ∃ p ∈ ps, Py M x p
  | _, _, .nil, x, h => absurd h (by simp)
  | _, _, .cons k ks, x, h => by
    rcases List.mem_cons.mp h with e | h
    · subst e; exact ⟨_, List.mem_cons_self, k⟩
    · obtain ⟨p, hp, q⟩ := PyAll.mem ks x h; exact ⟨p, List.mem_cons_of_mem _ hp, q⟩
theorem PyAll.append {M : Mem} : ∀ {xs ys : List D} {ps qs : List PyData}, PyAll M xs ps → PyAll M ys qs → PyAll M (xs ++ ys) (ps ++ qs)
  | _, _, _, _, .nil, h => h
  | _, _, _, _, .cons k ks, h => .cons k (PyAll.append ks h)
theorem PyAll.length {M : Mem} : ∀ {xs : List D} {ps : List PyData}, PyAll M xs ps → xs.length = ps.length
  | _, _, .nil => rfl
  | _, _, .cons _ ks => by rw [List.length_cons, List.length_cons, PyAll.length ks]

open Classical in
/-- the tree that a value reads -/
noncomputable def tree (M : Mem) (d : D) : Option PyData := if h : ∃ p, Py M d p then some h.choose else none
theorem tree_of {M : Mem} {d : D} {p : PyData} (h : Py M d p) : tree M d = some p := by
  have h' : ∃ p, Py M d p := ⟨p, h⟩
  unfold tree
  rw [dif_pos h', Py.det h'.choose_spec h]
theorem of_tree {M : Mem} {d : D} {p : PyData} (h : tree M d = some p) : Py M d p := by
  unfold tree at h
  split at h
  · rename_i h'; cases h; exact h'.choose_spec
  · cases h

/-- == of data -/
noncomputable def eqD (M : Mem) (d e : D) : Option Bool :=
  (tree M d).bind fun p => (tree M e).bind fun q => if (SeqAt.shaped p && SeqAt.shaped q) = true then some (PyData.eqv p q) else none
theorem eqD_of {M : Mem} {d e : D} {p q : PyData} (h : Py M d p) (k : Py M e q) (sp : SeqAt.shaped p = true) (sq : SeqAt.shaped q = true) : eqD M d e = some (PyData.eqv p q) := by
  unfold eqD
  rw [tree_of h, tree_of k]
  show (if (SeqAt.shaped p && SeqAt.shaped q) = true then some (PyData.eqv p q) else none) = _
  rw [sp, sq]
  rfl
theorem of_eqD {M : Mem} {d e : D} {b : Bool} (h : eqD M d e = some b) : ∃ p q, Py M d p ∧ Py M e q ∧ SeqAt.shaped p = true ∧ SeqAt.shaped q = true ∧ b = PyData.eqv p q := by
  unfold eqD at h
  cases e1 : tree M d with
  | none => rw [e1] at h; cases h
  | some p =>
    cases e2 : tree M e with
    | none => rw [e1, e2] at h; cases h
    | some q =>
      rw [e1, e2] at h
      have h' : (if (SeqAt.shaped p && SeqAt.shaped q) = true then some (PyData.eqv p q) else none) = some b := h
      split at h'
      · rename_i c
        rw [Bool.and_eq_true] at c
        cases h'
        exact ⟨p, q, of_tree e1, of_tree e2, c.1, c.2, rfl⟩
      · cases h'

/-! ### what is asked of values -/
def truth (M : Mem) : D → Option Bool
  | .non => some false
  | .bl b => some b
  | .int i => some (i != 0)
  | .str x => if x.length ≤ sizeLine then some ((x.length : Int) != 0) else none
  | .tup xs => some (!xs.isEmpty)
  | .frl xs => some (!xs.isEmpty)
  | .ref a => match M[a]? with
    | some (.lst xs) => some (!xs.isEmpty)
    | some (.dct kvs) => some (!kvs.isEmpty)
    | none => none
def lenD (M : Mem) : D → Option Nat
  | .str x => if x.length ≤ sizeLine then some x.length else none
  | .tup xs => some xs.length
  | .frl xs => some xs.length
  | .ref a => match M[a]? with
    | some (.lst xs) => some xs.length
    | some (.dct kvs) => some kvs.length
    | none => none
  | _ => none
/-- the items of a tuple, of a list -/
def itemsD (M : Mem) : D → Option (List D)
  | .tup xs => some xs
  | .frl xs => some xs
  | .ref a => match M[a]? with
    | some (.lst xs) => some xs
    | _ => none
  | _ => none
def tyD (M : Mem) : D → Option String
  | .non => some "NoneType"
  | .bl _ => some "bool"
  | .int _ => some "int"
  | .str _ => some "str"
  | .tup _ => some "tuple"
  | .frl _ => some "list"
  | .ref a => match M[a]? with
    | some (.lst _) => some "list"
    | some (.dct _) => some "dict"
    | none => none
def cutL {α : Type} (xs : List α) (lo hi : Option Int) : List α := (xs.drop (HT.sIx xs.length 0 lo)).take (HT.sIx xs.length xs.length hi - HT.sIx xs.length 0 lo)

/-! ### operators -/
inductive O2 where | add | sub | mul | fdiv | mod | pow
inductive Cm where | eq | ne | lt | le | gt | ge | is | isn | mem | nmem
instance : DecidableEq O2 := fun a b => by cases a <;> cases b <;> first | exact isTrue rfl | exact isFalse (fun h => nomatch h)
instance : DecidableEq Cm := fun a b => by cases a <;> cases b <;> first | exact isTrue rfl | exact isFalse (fun h => nomatch h)
def newM (M : Mem) (o : MO) : RD := .ok (.ref M.length, M ++ [o])
def mulOk (i j : Int) : Bool := decide (i.natAbs.log2 + j.natAbs.log2 < 1000000)
def divOk (j : Int) : Bool := decide (0 < j) && decide (j.natAbs.log2 < 9000)
def powOk (i j : Int) : Bool := decide (0 ≤ j) && decide (j ≤ 1000000) && decide (i.natAbs < 2 ^ 64)
def binD (M : Mem) : O2 → D → D → RD
  | .add, .int i, .int j => .ok (.int (i + j), M)
  | .add, .str x, .str y => R.when (x.length + y.length ≤ sizeLine) (.ok (.str (x ++ y), M))
  | .add, .tup xs, .tup ys => R.when (xs.length + ys.length ≤ sizeLine) (.ok (.tup (xs ++ ys), M))
  | .add, .ref a, .ref b => match M[a]?, M[b]? with
    | some (.lst xs), some (.lst ys) => R.when (xs.length + ys.length ≤ sizeLine) (newM M (.lst (xs ++ ys)))
    | _, _ => .bad
  | .sub, .int i, .int j => .ok (.int (i - j), M)
  | .mul, .int i, .int j => R.when (mulOk i j = true) (.ok (.int (i * j), M))
  | .fdiv, .int i, .int j => R.when (divOk j = true) (.ok (.int (i / j), M))
  | .mod, .int i, .int j => R.when (0 < j) (.ok (.int (i % j), M))
  | .pow, .int i, .int j => R.when (powOk i j = true) (.ok (.int (i ^ j.toNat), M))
  | .add, .bl k, .int j => .ok (.int ((if k = true then (1 : Int) else 0) + j), M)
  | .sub, .bl k, .int j => .ok (.int ((if k = true then (1 : Int) else 0) - j), M)
  | .add, .int i, .bl k => .ok (.int (i + if k = true then (1 : Int) else 0), M)
  | _, _, _ => .bad
/-- what is in a list, a tuple of flat things -/
def flatD : D → Bool
  | .tup _ => false | .frl _ => false | .ref _ => false | _ => true
def eqF : D → D → Bool
  | .non, .non => true
  | .bl a, .bl b => a == b
  | .int i, .int j => i == j
  | .str x, .str y => x == y
  | .bl a, .int j => (if a then 1 else 0) == j
  | .int i, .bl b => i == (if b then 1 else 0)
  | _, _ => false
def inF (x : D) (xs : List D) : Bool := xs.any fun y => eqF y x
open Classical in
noncomputable def inD (M : Mem) (x c : D) : Option Bool := match c with
  | .str z => match x with
    | .str y => some (!(Builtin.Str.occurrences z y 0 z.length 1).isEmpty)
    | _ => none
  | .tup xs => if (flatD x && xs.all flatD) = true then some (inF x xs) else none
  | .ref a => match M[a]? with
    | some (.dct kvs) => (keyD x).map fun k => (lookD kvs k).isSome
    | some (.lst xs) => if (flatD x && xs.all flatD) = true then some (inF x xs) else
        (tree M x).bind fun d => (tree M c).bind fun e => match e with
          | .list ds => if (SeqAt.shaped d && SeqAt.shaped (.list ds)) = true then some (ds.any fun z => PyData.eqv z d) else none
          | _ => none
    | _ => none
  | _ => none
noncomputable def cmpD (M : Mem) : Cm → D → D → Option Bool
  | .eq, .str x, .str y => some (x == y)
  | .ne, .str x, .str y => some (!(x == y))
  | .eq, d, e => eqD M d e
  | .ne, d, e => (eqD M d e).map (!·)
  | .lt, .int i, .int j => some (decide (i < j))
  | .le, .int i, .int j => some (decide (i ≤ j))
  | .gt, .int i, .int j => some (decide (j < i))
  | .ge, .int i, .int j => some (decide (j ≤ i))
  | .is, .non, .non => some true
  | .is, .ref _, .non => some false
  | .is, .tup _, .non => some false
  | .is, .frl _, .non => some false
  | .is, .int _, .non => some false
  | .is, .str _, .non => some false
  | .is, .bl _, .non => some false
  | .isn, .non, .non => some false
  | .isn, .ref _, .non => some true
  | .isn, .tup _, .non => some true
  | .isn, .frl _, .non => some true
  | .isn, .int _, .non => some true
  | .isn, .str _, .non => some true
  | .isn, .bl _, .non => some true
  | .mem, x, c => inD M x c
  | .nmem, x, c => (inD M x c).map (!·)
  | _, _, _ => none
def idxD (M : Mem) (x i : D) : Option D := match x with
  | .tup xs => match i with | .int k => L2.atI xs k | _ => none
  | .frl xs => match i with | .int k => L2.atI xs k | _ => none
  | .str z => match i with
    | .int k => if z.length ≤ sizeLine then (L2.atI z.cps.toList k).map fun c => .str ⟨#[c]⟩ else none
    | _ => none
  | .ref a => match M[a]? with
    | some (.lst xs) => match i with | .int k => L2.atI xs k | _ => none
    | some (.dct kvs) => (keyD i).bind fun k => lookD kvs k
    | none => none
  | _ => none
def slcD (M : Mem) (x : D) (lo hi : Option Int) : RD := match x with
  | .tup xs => .ok (.tup (cutL xs lo hi), M)
  | .frl xs => newM M (.lst (cutL xs lo hi))
  | .str z => R.when (z.length ≤ sizeLine) (.ok (.str (L2.cutS z lo hi), M))
  | .ref a => match M[a]? with
    | some (.lst xs) => newM M (.lst (cutL xs lo hi))
    | _ => .bad
  | _ => .bad
def revD (M : Mem) (x : D) : RD := match x with
  | .tup xs => .ok (.tup xs.reverse, M)
  | .ref a => match M[a]? with
    | some (.lst xs) => newM M (.lst xs.reverse)
    | _ => .bad
  | _ => .bad
end Cp

namespace Cp
open PySem

/-! ### the compact syntax -/
inductive Lit where | non | bl (b : Bool) | int (i : Int) | str (x : Str)
def Lit.d : Lit → D
  | .non => .non | .bl b => .bl b | .int i => .int i | .str x => .str x
inductive Bi where | len | list | tuple | str | repr | ord | int | all | any | sum | sorted | max | min | dict | set
def Bi.nm : Bi → Str
  | .len => "len" | .list => "list" | .tuple => "tuple" | .str => "str" | .repr => "repr" | .ord => "ord" | .int => "int"
  | .all => "all" | .any => "any" | .sum => "sum" | .sorted => "sorted" | .max => "max" | .min => "min" | .dict => "dict" | .set => "set"
inductive Me where | append | extend | pop | join | get | update | setdefault | index | insert | count | split | remove | items
def Me.nm : Me → Str
  | .append => "append" | .extend => "extend" | .pop => "pop" | .join => "join" | .get => "get" | .update => "update" | .setdefault => "setdefault"
  | .index => "index" | .insert => "insert" | .count => "count" | .split => "split" | .remove => "remove" | .items => "items"
mutual
inductive E where
  | var (i : Nat)
  | lit (c : Lit)
  | glob (g : Nat)
  | bin (o : O2) (a b : E)
  | neg (a : E)
  | not (a : E)
  | bool (c : Bool) (es : Es)
  | cmp (c : Cm) (a b : E)
  | chain (c1 c2 : Cm) (a b d : E)
  | ite (c : T) (a b : E)
  | tup (es : Es)
  | lst (es : Es)
  | dic (ps : Ps)
  | idx (a b : E)
  | slc (a : E) (lo hi : O)
  | rev (a : E)
  | call (f : Nat) (es : Es)
  | bi (b : Bi) (es : Es)
  | isi (a : E) (t : String)
  | meth (m : Me) (o : E) (es : Es)
  | lc (elt : E) (t : Tg) (it : It) (cond : Ts) (own : List Nat)
  | trg (a : E)
  | lrg (a : E)
inductive Es where | nil | cons (e : E) (es : Es)
inductive Ps where | nil | cons (k v : E) (ps : Ps)
/-- a test -/
inductive T where | val (e : E) | not (t : T) | bool (c : Bool) (ts : Ts)
inductive Ts where | nil | cons (t : T) (ts : Ts)
/-- a part of a slice -/
inductive O where | no | at (e : E)
inductive It where | ex (e : E) | rg1 (a : E) | rg2 (a b : E)
inductive Tg where | nm (i : Nat) | tp (is : List Nat) | sb (o i : E)
inductive S where
  | asg (t : Tg) (e : E)
  | asgc (i : Nat) (e : E)
  | par (is : List Nat) (es : Es)
  | expr (e : E)
  | iff (c : T) (a b : Ss)
  | whl (c : T) (b : Ss)
  | fr (t : Tg) (it : It) (b : Ss)
  | ret (e : E)
  | ret0 | brk | cont | pass | doc
inductive Ss where | nil | cons (s : S) (ss : Ss)
end

/-! ### its run -/
inductive Fl where | nx | bk | ct | rt (d : D)
/-- what is walked: items told, or a list as it stands at each turn -/
inductive Src where | its (xs : List D) | live (a : Nat)
abbrev RS := R (Fl × Ev × Mem)
/-- more turns than any loop takes -/
@[irreducible] def wf : Nat := 1099511627776
def whileR (c : Ev → Mem → R (Bool × Mem)) (b : Ev → Mem → RS) : Nat → Ev → Mem → RS
  | 0, _, _ => .bad
  | n + 1, s, M => (c s M).bind fun p => match p.1 with
    | true => (b s p.2).bind fun q => match q.1 with
      | .nx => whileR c b n q.2.1 q.2.2
      | .ct => whileR c b n q.2.1 q.2.2
      | .bk => .ok (.nx, q.2.1, q.2.2)
      | .rt d => .ok (.rt d, q.2.1, q.2.2)
    | false => .ok (.nx, s, p.2)
def Src.at_ : Src → Mem → Nat → Option (Option D)
  | .its xs, _, i => some xs[i]?
  | .live a, M, i => match M[a]? with
    | some (.lst xs) => some xs[i]?
    | _ => none
def forX (c : Src) (set : D → Ev → Mem → R (Ev × Mem)) (b : Ev → Mem → RS) : Nat → Nat → Ev → Mem → RS
  | 0, _, _, _ => .bad
  | n + 1, i, s, M => R.of (c.at_ M i) fun o => match o with
    | none => .ok (.nx, s, M)
    | some x => (set x s M).bind fun p => (b p.1 p.2).bind fun q => match q.1 with
      | .nx => forX c set b n (i + 1) q.2.1 q.2.2
      | .ct => forX c set b n (i + 1) q.2.1 q.2.2
      | .bk => .ok (.nx, q.2.1, q.2.2)
      | .rt d => .ok (.rt d, q.2.1, q.2.2)
def wipeE (s : Ev) : List Nat → Ev
  | [] => s
  | v :: vs => (wipeE s vs).set v none
/-- one turn of a comprehension: nothing, or an item more -/
def turnC (set : D → Ev → Mem → R (Ev × Mem)) (cond : Ev → Mem → R (Bool × Mem)) (elt : Ev → Mem → RD) (x : D) (s : Ev) (M : Mem) (acc : List D) : R (List D × Mem) :=
  (set x s M).bind fun p => (cond p.1 p.2).bind fun q => match q.1 with
    | true => (elt p.1 q.2).bind fun r => R.when (acc.length < sizeLine) (.ok (acc ++ [r.1], r.2))
    | false => .ok (acc, q.2)
def compX (c : Src) (set : D → Ev → Mem → R (Ev × Mem)) (cond : Ev → Mem → R (Bool × Mem)) (elt : Ev → Mem → RD) (s : Ev) : Nat → Nat → Mem → List D → R (List D × Mem)
  | 0, _, _, _ => .bad
  | n + 1, i, M, acc => R.of (c.at_ M i) fun o => match o with
    | none => .ok (acc, M)
    | some x => (turnC set cond elt x s M acc).bind fun p => compX c set cond elt s n (i + 1) p.2 p.1
def setsE : List Nat → List D → Ev → Ev
  | i :: is, d :: ds, s => setsE is ds (s.set i (some d))
  | _, _, s => s
def setItem (M : Mem) (o i v : D) : R Mem := match o with
  | .ref a => match M[a]? with
    | some (.lst xs) => match i with
      | .int k => R.of (L2.ixN xs.length k) fun j => .ok (M.set a (.lst (xs.set j v)))
      | _ => .bad
    | some (.dct kvs) => R.of (keyD i) fun k => R.when (kvs.length < sizeLine) (.ok (M.set a (.dct (putD kvs k v))))
    | _ => .bad
  | _ => .bad
def pairsD : List D → List D → Option (List (L2.Key × D))
  | [], [] => some []
  | k :: ks, v :: vs => (keyD k).bind fun k => (pairsD ks vs).map fun r => (k, v) :: r
  | _, _ => none
def mergeD (kvs more : List (L2.Key × D)) : List (L2.Key × D) := more.foldl (fun acc kv => putD acc kv.1 kv.2) kvs
/-- the items of a list -/
def listD (M : Mem) : D → Option (List D)
  | .frl xs => some xs
  | .ref a => match M[a]? with
    | some (.lst xs) => some xs
    | _ => none
  | _ => none
def boolsD : List D → Option (List Bool)
  | [] => some []
  | .bl b :: r => (boolsD r).map fun bs => b :: bs
  | _ => none
def intsD : List D → Option (List Int)
  | [] => some []
  | .int i :: r => (intsD r).map fun bs => i :: bs
  | _ => none
def strsD : List D → Option (List Str)
  | [] => some []
  | .str i :: r => (strsD r).map fun bs => i :: bs
  | _ => none
def rngD (lo hi : Int) : List D := (List.range (hi - lo).toNat).map fun i => .int (lo + (i : Nat))
def rngOk (lo hi : Int) : Bool := decide (-(2 ^ 62) ≤ lo) && decide (lo < 2 ^ 62) && decide (-(2 ^ 62) ≤ hi) && decide (hi < 2 ^ 62)
def rngOk2 (lo hi : Int) : Bool := rngOk lo hi && decide ((hi - lo).toNat ≤ 2 ^ 24)
noncomputable def biD (M : Mem) : Bi → List D → RD
  | .len, [x] => R.of (lenD M x) fun n => .ok (.int n, M)
  | .list, [x] => R.of (itemsD M x) fun xs => newM M (.lst xs)
  | .tuple, [x] => R.of (itemsD M x) fun xs => .ok (.tup xs, M)
  | .str, [.int i] => R.when (i.natAbs.log2 < 1920) (.ok (.str (toString i), M))
  | .str, [.bl b] => .ok (.str (if b = true then "True" else "False"), M)
  | .repr, [x] => R.of (tree M x) fun p => R.when (p.showable = true ∧ p.depth ≤ 64 ∧ p.shown.length ≤ sizeLine) (.ok (.str p.shown, M))
  | .ord, [.str x] => match x.cps.toList with | [c] => .ok (.int c, M) | _ => .bad
  | .int, [.int i] => .ok (.int i, M)
  | .int, [.bl b] => .ok (.int (if b then 1 else 0), M)
  | .all, [x] => R.of (listD M x) fun xs => R.of (boolsD xs) fun bs => .ok (.bl (bs.all id), M)
  | .any, [x] => R.of (listD M x) fun xs => R.of (boolsD xs) fun bs => .ok (.bl (bs.any id), M)
  | .sum, [x] => R.of (listD M x) fun xs => R.of (intsD xs) fun bs => .ok (.int bs.sum, M)
  | _, _ => .bad
/-- the kind of thing that a method is asked of -/
def Me.ofS : Me → Bool | .join => true | .split => true | _ => false
def Me.ofK : Me → Bool | .get => true | .update => true | .setdefault => true | .items => true | _ => false
def Me.ofL : Me → Bool | .append => true | .extend => true | .pop => true | .index => true | .insert => true | .count => true | .remove => true | _ => false
def tyM (m : Me) (M : Mem) : D → Bool
  | .str _ => m.ofS
  | .ref a => match M[a]? with
    | some (.lst _) => m.ofL
    | some (.dct _) => m.ofK
    | _ => false
  | _ => false
def appendD (M : Mem) (o : D) (ds : List D) : RD := match o, ds with
  | .ref a, [x] => match M[a]? with
    | some (.lst xs) => R.when (xs.length < sizeLine) (.ok (.non, M.set a (.lst (xs ++ [x]))))
    | _ => .bad
  | _, _ => .bad
def extendD (M : Mem) (o : D) (ds : List D) : RD := match o, ds with
  | .ref a, [.ref b] => match M[a]?, M[b]? with
    | some (.lst xs), some (.lst ys) => R.when (xs.length + ys.length ≤ sizeLine) (.ok (.non, M.set a (.lst (xs ++ ys))))
    | _, _ => .bad
  | _, _ => .bad
def popD (M : Mem) (o : D) (ds : List D) : RD := match o, ds with
  | .ref a, [] => match M[a]? with
    | some (.lst xs) => R.of (xs[xs.length - 1]?) fun y => .ok (y, M.set a (.lst xs.dropLast))
    | _ => .bad
  | .ref a, [.int i] => match M[a]? with
    | some (.lst xs) => R.of (L2.ixN xs.length i) fun j => R.of xs[j]? fun y => .ok (y, M.set a (.lst (xs.eraseIdx j)))
    | _ => .bad
  | _, _ => .bad
def joinD (M : Mem) (o : D) (ds : List D) : RD := match o, ds with
  | .str z, [x] => R.of (itemsD M x) fun xs => R.of (strsD xs) fun ys =>
      R.when ((ys.map (·.length)).sum + ys.length * z.length ≤ 16777216) (.ok (.str (Txt.join z ys), M))
  | _, _ => .bad
def getD (M : Mem) (o : D) (ds : List D) : RD := match o, ds with
  | .ref a, [k] => match M[a]? with
    | some (.dct kvs) => R.of (keyD k) fun k => .ok ((lookD kvs k).getD .non, M)
    | _ => .bad
  | .ref a, [k, d] => match M[a]? with
    | some (.dct kvs) => R.of (keyD k) fun k => .ok ((lookD kvs k).getD d, M)
    | _ => .bad
  | _, _ => .bad
def meD (M : Mem) (m : Me) (o : D) (ds : List D) : RD := match m with
  | .append => appendD M o ds
  | .extend => extendD M o ds
  | .pop => popD M o ds
  | .join => joinD M o ds
  | .get => getD M o ds
  | _ => .bad

/-- the module: its constants, its defs -/
structure Fn where
  name : Str
  ps : List Str
  names : List Str
  body : Ss
structure Mdl where
  con : List (Str × D)
  fns : List Fn
abbrev Cf := Nat → List D → Mem → RD
section
variable (G : Mdl) (cf : Cf)
mutual
noncomputable def ev : E → Ev → Mem → RD
  | .var i, s, M => match s[i]? with | some (some d) => .ok (d, M) | _ => .bad
  | .lit c, _, M => .ok (c.d, M)
  | .glob g, _, M => match G.con[g]? with | some p => .ok (p.2, M) | none => .bad
  | .bin o a b, s, M => (ev a s M).bind fun p => (ev b s p.2).bind fun q => binD q.2 o p.1 q.1
  | .neg a, s, M => (ev a s M).bind fun p => match p.1 with | .int i => .ok (.int (-i), p.2) | _ => .bad
  | .not a, s, M => (ev a s M).bind fun p => match p.1 with | .bl b => .ok (.bl (!b), p.2) | _ => .bad
  | .bool c es, s, M => evV es c s M
  | .cmp c a b, s, M => (ev a s M).bind fun p => (ev b s p.2).bind fun q => R.of (cmpD q.2 c p.1 q.1) fun k => .ok (.bl k, q.2)
  | .chain c1 c2 a b d, s, M => (ev a s M).bind fun p => (ev b s p.2).bind fun q => R.of (cmpD q.2 c1 p.1 q.1) fun k => match k with
    | true => (ev d s q.2).bind fun r => R.of (cmpD r.2 c2 q.1 r.1) fun k => .ok (.bl k, r.2)
    | false => .ok (.bl false, q.2)
  | .ite c a b, s, M => (evT c s M).bind fun p => match p.1 with | true => ev a s p.2 | false => ev b s p.2
  | .tup es, s, M => (evs es s M).bind fun p => R.when (p.1.length ≤ sizeLine) (.ok (.tup p.1, p.2))
  | .lst es, s, M => (evs es s M).bind fun p => R.when (p.1.length ≤ sizeLine) (newM p.2 (.lst p.1))
  | .dic ps, s, M => (evp ps s M).bind fun p => R.of (pairsD (p.1.map (·.1)) (p.1.map (·.2))) fun kvs => R.when (kvs.length ≤ 15) (newM p.2 (.dct (mergeD [] kvs)))
  | .idx a b, s, M => (ev a s M).bind fun p => (ev b s p.2).bind fun q => R.of (idxD q.2 p.1 q.1) fun d => .ok (d, q.2)
  | .slc a lo hi, s, M => (ev a s M).bind fun p => (evO lo s p.2).bind fun q => (evO hi s q.2).bind fun r => slcD r.2 p.1 q.1 r.1
  | .rev a, s, M => (ev a s M).bind fun p => revD p.2 p.1
  | .call f es, s, M => (evs es s M).bind fun p => cf f p.1 p.2
  | .bi b es, s, M => (evs es s M).bind fun p => biD p.2 b p.1
  | .isi a t, s, M => (ev a s M).bind fun p => R.of (tyD p.2 p.1) fun u => R.of (L2.kitB u t) fun k => .ok (.bl k, p.2)
  | .meth m o es, s, M => (ev o s M).bind fun p => R.when (tyM m p.2 p.1 = true) ((evs es s p.2).bind fun q => meD q.2 m p.1 q.1)
  | .lc elt t it cond own, s, M => (evI it s M).bind fun p =>
    (compX p.1 (evG t) (fun s M => evTs cond true s M) (fun s M => ev elt s M) (wipeE s own) wf 0 p.2 []).bind fun q => newM q.2 (.lst q.1)
  | .trg a, s, M => (ev a s M).bind fun p => match p.1 with | .int n => R.when (rngOk2 0 n = true) (.ok (.tup (rngD 0 n), p.2)) | _ => .bad
  | .lrg a, s, M => (ev a s M).bind fun p => match p.1 with | .int n => R.when (rngOk2 0 n = true) (newM p.2 (.lst (rngD 0 n))) | _ => .bad
/-- a part of a slice -/
noncomputable def evO : O → Ev → Mem → R (Option Int × Mem)
  | .no, _, M => .ok (none, M)
  | .at e, s, M => (ev e s M).bind fun p => match p.1 with | .int i => .ok (some i, p.2) | _ => .bad
noncomputable def evT : T → Ev → Mem → R (Bool × Mem)
  | .not a, s, M => (evT a s M).bind fun p => .ok (!p.1, p.2)
  | .bool c ts, s, M => evTs ts c s M
  | .val e, s, M => (ev e s M).bind fun p => R.of (truth p.2 p.1) fun b => .ok (b, p.2)
noncomputable def evs : Es → Ev → Mem → R (List D × Mem)
  | .nil, _, M => .ok ([], M)
  | .cons e es, s, M => (ev e s M).bind fun p => (evs es s p.2).bind fun q => .ok (p.1 :: q.1, q.2)
/-- and, or as a value: all but the last truths -/
noncomputable def evV : Es → Bool → Ev → Mem → RD
  | .nil, c, _, M => .ok (.bl c, M)
  | .cons e es, c, s, M => (ev e s M).bind fun p => match p.1 with
    | .bl b => if b = c then evV es c s p.2 else .ok (.bl b, p.2)
    | _ => .bad
noncomputable def evTs : Ts → Bool → Ev → Mem → R (Bool × Mem)
  | .nil, c, _, M => .ok (c, M)
  | .cons t ts, c, s, M => (evT t s M).bind fun p => if p.1 = c then evTs ts c s p.2 else .ok (p.1, p.2)
noncomputable def evp : Ps → Ev → Mem → R (List (D × D) × Mem)
  | .nil, _, M => .ok ([], M)
  | .cons k v ps, s, M => (ev k s M).bind fun p => (ev v s p.2).bind fun q => (evp ps s q.2).bind fun r => .ok ((p.1, q.1) :: r.1, r.2)
noncomputable def evI : It → Ev → Mem → R (Src × Mem)
  | .ex e, s, M => (ev e s M).bind fun p => match p.1 with
    | .tup xs => .ok (.its xs, p.2)
    | .str z => .ok (.its (z.cps.toList.map fun c => .str ⟨#[c]⟩), p.2)
    | .frl xs => .ok (.its xs, p.2)
    | .ref a => match p.2[a]? with
      | some (.lst _) => .ok (.live a, p.2)
      | _ => .bad
    | _ => .bad
  | .rg1 a, s, M => (ev a s M).bind fun p => match p.1 with | .int n => R.when (rngOk 0 n = true) (.ok (.its (rngD 0 n), p.2)) | _ => .bad
  | .rg2 a b, s, M => (ev a s M).bind fun p => (ev b s p.2).bind fun q => match p.1, q.1 with
    | .int m, .int n => R.when (rngOk m n = true) (.ok (.its (rngD m n), q.2))
    | _, _ => .bad
/-- a target is given a value -/
noncomputable def evG : Tg → D → Ev → Mem → R (Ev × Mem)
  | .nm i, d, s, M => .ok (s.set i (some d), M)
  | .tp is, d, s, M => match d with
    | .tup ds => R.when (ds.length = is.length) (.ok (setsE is ds s, M))
    | _ => .bad
  | .sb o i, d, s, M => (ev o s M).bind fun p => (ev i s p.2).bind fun q => (setItem q.2 p.1 q.1 d).bind fun M' => .ok (s, M')
end
mutual
noncomputable def evS : S → Ev → Mem → RS
  | .asg t e, s, M => (ev G cf e s M).bind fun p => (evG G cf t p.1 s p.2).bind fun q => .ok (.nx, q.1, q.2)
  | .asgc i e, s, M => (ev G cf e s M).bind fun p => .ok (.nx, s.set i (some p.1), p.2)
  | .par is es, s, M => (evs G cf es s M).bind fun p => R.when (p.1.length = is.length) (.ok (.nx, setsE is p.1 s, p.2))
  | .expr e, s, M => (ev G cf e s M).bind fun p => .ok (.nx, s, p.2)
  | .iff c a b, s, M => (evT G cf c s M).bind fun p => match p.1 with | true => evSs a s p.2 | false => evSs b s p.2
  | .whl c b, s, M => whileR (fun s M => evT G cf c s M) (fun s M => evSs b s M) wf s M
  | .fr t it b, s, M => (evI G cf it s M).bind fun p => forX p.1 (evG G cf t) (fun s M => evSs b s M) wf 0 s p.2
  | .ret e, s, M => (ev G cf e s M).bind fun p => .ok (.rt p.1, s, p.2)
  | .ret0, s, M => .ok (.rt .non, s, M)
  | .brk, s, M => .ok (.bk, s, M)
  | .cont, s, M => .ok (.ct, s, M)
  | .pass, s, M => .ok (.nx, s, M)
  | .doc, s, M => .ok (.nx, s, M)
noncomputable def evSs : Ss → Ev → Mem → RS
  | .nil, s, M => .ok (.nx, s, M)
  | .cons a r, s, M => (evS a s M).bind fun q => match q.1 with
    | .nx => evSs r q.2.1 q.2.2
    | .bk => .ok (.bk, q.2.1, q.2.2)
    | .ct => .ok (.ct, q.2.1, q.2.2)
    | .rt d => .ok (.rt d, q.2.1, q.2.2)
end
/-- a def's own end -/
def endF (r : RS) : RD := r.bind fun q => match q.1 with
  | .rt d => .ok (d, q.2.2)
  | .nx => .ok (.non, q.2.2)
  | _ => .bad
end
noncomputable def callF (G : Mdl) : Nat → Cf
  | 0, _, _, _ => .bad
  | n + 1, f, args, M => match G.fns[f]? with
    | some F => R.when (args.length = F.ps.length) (endF (evSs G (callF G n) F.body (args.map some ++ List.replicate (F.names.length - F.ps.length) none) M))
    | none => .bad
end Cp

namespace Cp
open PySem L2

/-- a list that nobody may change -/
def FrzL (K : PySem.W.Frag) (H : Hp) (a : Addr) (vs : List V) : Prop := (∃ o, H a = some (.frz o (.lst vs))) ∨
  ∃ (o : Obj) (its : Array Value) (n : Nat), K.lookup a = some o ∧ o.cls = .type "list" ∧ o.dict = none ∧ o.data = .seq its n ∧ its.size ≤ sizeLine ∧ Vals vs its.toList
theorem FrzL.sq {K : PySem.W.Frag} {H : Hp} {a : Addr} {vs : List V} (h : FrzL K H a vs) : SqL K H a vs := by
  rcases h with ⟨o, h⟩ | h
  · exact .inl (.inr ⟨o, h⟩)
  · exact .inr h
/-! ### what the values stand for: js, the addresses of the numbers -/
mutual
inductive Rep (K : PySem.W.Frag) (js : List Addr) (H : Hp) : D → V → Prop
  | non : Rep K js H .non .non
  | bl (b : Bool) : Rep K js H (.bl b) (.bl b)
  | int (i : Int) : Rep K js H (.int i) (.int i)
  | str (x : Str) : Rep K js H (.str x) (.str x)
  | tup {xs : List D} {a : Addr} {vs : List V} : SqT K H a vs → Reps K js H xs vs → Rep K js H (.tup xs) (.ref a)
  | frl {xs : List D} {a : Addr} {vs : List V} : FrzL K H a vs → Reps K js H xs vs → Rep K js H (.frl xs) (.ref a)
  | ref {n : Nat} {a : Addr} : js[n]? = some a → Rep K js H (.ref n) (.ref a)
inductive Reps (K : PySem.W.Frag) (js : List Addr) (H : Hp) : List D → List V → Prop
  | nil : Reps K js H [] []
  | cons {x : D} {v : V} {xs : List D} {vs : List V} : Rep K js H x v → Reps K js H xs vs → Reps K js H (x :: xs) (v :: vs)
end
/-- what stands at an address for what may change -/
inductive RepO (K : PySem.W.Frag) (js : List Addr) (H : Hp) : MO → HO → Prop
  | lst {xs : List D} {vs : List V} : Reps K js H xs vs → RepO K js H (.lst xs) (.lst vs)
  | dct {kvs : List (Key × D)} {ws : List (Key × V)} : kvs.map (·.1) = ws.map (·.1) → Reps K js H (kvs.map (·.2)) (ws.map (·.2)) → RepO K js H (.dct kvs) (.dK ws)
structure Tie (K : PySem.W.Frag) (js : List Addr) (H : Hp) (M : Mem) : Prop where
  len : js.length = M.length
  nd : js.Nodup
  at_ : ∀ (n : Nat) (o : MO), M[n]? = some o → ∃ a h, js[n]? = some a ∧ H a = some h ∧ RepO K js H o h
structure Ext (js : List Addr) (H : Hp) (js' : List Addr) (H' : Hp) : Prop where
  pre : ∃ more, js' = js ++ more ∧ ∀ b ∈ more, H b = none
  keep : ∀ b o, H b = some o → b ∉ js → H' b = some o

section
variable {K : PySem.W.Frag} {js js' js2 : List Addr} {H H' H2 : Hp} {M M' : Mem}
theorem RepO.noTup {o : MO} {h : HO} (r : RepO K js H o h) : (∀ vs, h ≠ .tup vs) ∧ ∀ ob u, h ≠ .frz ob u := by
  cases r with
  | lst _ => exact ⟨fun _ e => (nomatch e), fun _ _ e => (nomatch e)⟩
  | dct _ _ => exact ⟨fun _ e => (nomatch e), fun _ _ e => (nomatch e)⟩
theorem Tie.find (T : Tie K js H M) {a : Addr} (h : a ∈ js) : ∃ (n : Nat) (o : MO) (u : HO), js[n]? = some a ∧ M[n]? = some o ∧ H a = some u ∧ RepO K js H o u := by
  obtain ⟨n, hn, e⟩ := List.getElem_of_mem h
  have hm : n < M.length := by rw [← T.len]; exact hn
  obtain ⟨a', u, e1, e2, e3⟩ := T.at_ n M[n] (List.getElem?_eq_getElem hm)
  have : a' = a := by
    rw [List.getElem?_eq_getElem hn, e] at e1
    exact (Option.some.inj e1).symm
  subst this
  exact ⟨n, _, u, e1, List.getElem?_eq_getElem hm, e2, e3⟩
theorem Tie.notin (T : Tie K js H M) {p : Addr} (h : H p = none) : p ∉ js := fun hm => by
  obtain ⟨_, _, u, _, _, e, _⟩ := T.find hm
  rw [h] at e; cases e
theorem Tie.tupout (T : Tie K js H M) {a : Addr} {vs : List V} (h : Rd H a (.tup vs)) : a ∉ js := fun hm => by
  obtain ⟨_, _, u, _, _, e, r⟩ := T.find hm
  rcases h with h | ⟨o, h⟩
  · rw [h] at e; cases e; exact r.noTup.1 _ rfl
  · rw [h] at e; cases e; exact r.noTup.2 _ _ rfl
theorem Ext.refl : Ext js H js H := ⟨⟨[], by simp, by simp⟩, fun _ _ h _ => h⟩
theorem Ext.trans (T : Tie K js' H' M') (e : Ext js H js' H') (f : Ext js' H' js2 H2) : Ext js H js2 H2 := by
  obtain ⟨m1, rfl, n1⟩ := e.pre
  obtain ⟨m2, rfl, n2⟩ := f.pre
  refine ⟨⟨m1 ++ m2, by simp, fun b hb => ?_⟩, fun b o h hn => ?_⟩
  · rcases List.mem_append.mp hb with hb | hb
    · exact n1 b hb
    · cases q : H b with
      | none => rfl
      | some o =>
        exfalso
        have hz := n2 b hb
        by_cases hj : b ∈ js
        · obtain ⟨_, _, u, _, _, eu, _⟩ := T.find (List.mem_append_left m1 hj)
          rw [hz] at eu; cases eu
        · have := e.keep b o q hj
          rw [hz] at this; cases this
  · refine f.keep b o (e.keep b o h hn) fun hm => ?_
    rcases List.mem_append.mp hm with hm | hm
    · exact hn hm
    · rw [n1 b hm] at h; cases h
theorem Ext.sqt (T : Tie K js H M) (e : Ext js H js' H') {a : Addr} {vs : List V} (h : SqT K H a vs) : SqT K H' a vs := by
  rcases h with (h | ⟨o, h⟩) | h
  · exact .inl (.inl (e.keep a _ h (T.tupout (.inl h))))
  · exact .inl (.inr ⟨o, e.keep a _ h (T.tupout (.inr ⟨o, h⟩))⟩)
  · exact .inr h
theorem Ext.frz (T : Tie K js H M) (e : Ext js H js' H') {a : Addr} {vs : List V} (h : FrzL K H a vs) : FrzL K H' a vs := by
  rcases h with ⟨o, h⟩ | h
  · refine .inl ⟨o, e.keep a _ h fun hm => ?_⟩
    obtain ⟨_, _, u, _, _, eu, r⟩ := T.find hm
    rw [h] at eu; cases eu; exact r.noTup.2 _ _ rfl
  · exact .inr h
theorem Ext.ix (e : Ext js H js' H') {n : Nat} {a : Addr} (h : js[n]? = some a) : js'[n]? = some a := by
  obtain ⟨m, rfl, _⟩ := e.pre
  rw [List.getElem?_append_left (List.getElem?_eq_some_iff.mp h).1]
  exact h
/-- what keeps a value's reading -/
structure Kp (K : PySem.W.Frag) (js : List Addr) (H : Hp) (js' : List Addr) (H' : Hp) : Prop where
  ix : ∀ (n : Nat) (a : Addr), js[n]? = some a → js'[n]? = some a
  sq : ∀ (a : Addr) (vs : List V), SqT K H a vs → SqT K H' a vs
  fz : ∀ (a : Addr) (vs : List V), FrzL K H a vs → FrzL K H' a vs
theorem Ext.kp (T : Tie K js H M) (e : Ext js H js' H') : Kp K js H js' H' := ⟨fun _ _ h => e.ix h, fun _ _ h => e.sqt T h, fun _ _ h => e.frz T h⟩
mutual
theorem Rep.kp (e : Kp K js H js' H') : ∀ {d : D} {v : V}, Rep K js H d v → Rep K js' H' d v
  | _, _, .non => .non
  | _, _, .bl b => .bl b
  | _, _, .int i => .int i
  | _, _, .str x => .str x
  | _, _, .tup h r => .tup (e.sq _ _ h) (Reps.kp e r)
  | _, _, .frl h r => .frl (e.fz _ _ h) (Reps.kp e r)
  | _, _, .ref h => .ref (e.ix _ _ h)
theorem Reps.kp (e : Kp K js H js' H') : ∀ {d : List D} {v : List V}, Reps K js H d v → Reps K js' H' d v
  | _, _, .nil => .nil
  | _, _, .cons h r => .cons (Rep.kp e h) (Reps.kp e r)
end
theorem RepO.kp (e : Kp K js H js' H') {o : MO} {h : HO} (r : RepO K js H o h) : RepO K js' H' o h := by
  cases r with
  | lst r => exact .lst (r.kp e)
  | dct k r => exact .dct k (r.kp e)
theorem Rep.ext (T : Tie K js H M) (e : Ext js H js' H') {d : D} {v : V} (r : Rep K js H d v) : Rep K js' H' d v := r.kp (e.kp T)
theorem Reps.ext (T : Tie K js H M) (e : Ext js H js' H') {d : List D} {v : List V} (r : Reps K js H d v) : Reps K js' H' d v := r.kp (e.kp T)
theorem RepO.ext (T : Tie K js H M) (e : Ext js H js' H') {o : MO} {h : HO} (r : RepO K js H o h) : RepO K js' H' o h := r.kp (e.kp T)
theorem Reps.length : ∀ {xs : List D} {vs : List V}, Reps K js H xs vs → xs.length = vs.length
  | _, _, .nil => rfl
  | _, _, .cons _ r => by rw [List.length_cons, List.length_cons, Reps.length r]
theorem Reps.get : ∀ {xs : List D} {vs : List V} {i : Nat} {x : D}, Reps K js H xs vs → xs[i]? = some x → ∃ v, vs[i]? = some v ∧ Rep K js H x v
  | _, _, _, _, .nil, e => by simp at e
  | _, _, 0, _, .cons h _, e => by simp at e; subst e; exact ⟨_, rfl, h⟩
  | _, _, i + 1, x, .cons _ r, e => by
    obtain ⟨v, h1, h2⟩ := Reps.get (i := i) (x := x) r (by simpa using e)
    exact ⟨v, by simpa using h1, h2⟩
theorem Reps.get' {xs : List D} {vs : List V} {i : Nat} {v : V} (r : Reps K js H xs vs) (e : vs[i]? = some v) : ∃ x, xs[i]? = some x ∧ Rep K js H x v := by
  have hi := (List.getElem?_eq_some_iff.mp e).1
  have hi' : i < xs.length := by rw [r.length]; exact hi
  obtain ⟨w, h1, h2⟩ := r.get (List.getElem?_eq_getElem hi')
  rw [e] at h1
  cases h1
  exact ⟨_, List.getElem?_eq_getElem hi', h2⟩
theorem Reps.append : ∀ {xs ys : List D} {vs ws : List V}, Reps K js H xs vs → Reps K js H ys ws → Reps K js H (xs ++ ys) (vs ++ ws)
  | _, _, _, _, .nil, h => h
  | _, _, _, _, .cons h r, k => .cons h (Reps.append r k)
theorem Reps.take : ∀ {xs : List D} {vs : List V} (n : Nat), Reps K js H xs vs → Reps K js H (xs.take n) (vs.take n)
  | _, _, 0, _ => .nil
  | _, _, _ + 1, .nil => .nil
  | _, _, n + 1, .cons h r => .cons h (Reps.take n r)
theorem Reps.drop : ∀ {xs : List D} {vs : List V} (n : Nat), Reps K js H xs vs → Reps K js H (xs.drop n) (vs.drop n)
  | _, _, 0, h => h
  | _, _, _ + 1, .nil => .nil
  | _, _, n + 1, .cons _ r => Reps.drop n r
theorem Reps.set {x : D} {v : V} (h : Rep K js H x v) : ∀ {xs : List D} {vs : List V} (i : Nat), Reps K js H xs vs → Reps K js H (xs.set i x) (vs.set i v)
  | _, _, _, .nil => .nil
  | _, _, 0, .cons _ r => .cons h r
  | _, _, i + 1, .cons k r => .cons k (Reps.set h i r)
theorem Reps.reverse : ∀ {xs : List D} {vs : List V}, Reps K js H xs vs → Reps K js H xs.reverse vs.reverse
  | _, _, .nil => .nil
  | _, _, .cons h r => by
    rw [List.reverse_cons, List.reverse_cons]
    exact (Reps.reverse r).append (.cons h .nil)
theorem Reps.dropLast : ∀ {xs : List D} {vs : List V}, Reps K js H xs vs → Reps K js H xs.dropLast vs.dropLast
  | _, _, .nil => .nil
  | _, _, .cons _ .nil => .nil
  | _, _, .cons h (.cons k r) => by
    show Reps K js H (_ :: (_ :: _).dropLast) (_ :: (_ :: _).dropLast)
    exact .cons h (Reps.dropLast (.cons k r))
theorem Reps.ints : ∀ {ns : List Int} {vs : List V}, Reps K js H (ns.map D.int) vs → vs = ns.map V.int
  | [], _, h => by cases h; rfl
  | n :: ns, _, h => by
    cases h with
    | cons a r => cases a; rw [Reps.ints r]; rfl
theorem Reps.of_ints : ∀ (ns : List Int), Reps K js H (ns.map D.int) (ns.map V.int)
  | [] => .nil
  | n :: ns => .cons (.int n) (Reps.of_ints ns)
theorem Reps.strs : ∀ {ns : List Str} {vs : List V}, Reps K js H (ns.map D.str) vs → vs = ns.map V.str
  | [], _, h => by cases h; rfl
  | n :: ns, _, h => by
    cases h with
    | cons a r => cases a; rw [Reps.strs r]; rfl
theorem Reps.of_strs : ∀ (ns : List Str), Reps K js H (ns.map D.str) (ns.map V.str)
  | [] => .nil
  | n :: ns => .cons (.str n) (Reps.of_strs ns)
theorem Reps.bools : ∀ {ns : List Bool} {vs : List V}, Reps K js H (ns.map D.bl) vs → vs = ns.map V.bl
  | [], _, h => by cases h; rfl
  | n :: ns, _, h => by
    cases h with
    | cons a r => cases a; rw [Reps.bools r]; rfl

/-! ### a new object, an object changed -/
theorem Tie.new (T : Tie K js H M) {p : Addr} {o : MO} {h : HO} (hp : H p = none) (r : RepO K js H o h) :
    Ext js H (js ++ [p]) (upd H p h) ∧ Tie K (js ++ [p]) (upd H p h) (M ++ [o]) := by
  have np := T.notin hp
  have e : Ext js H (js ++ [p]) (upd H p h) := ⟨⟨[p], rfl, fun b hb => by rw [List.mem_singleton.mp hb]; exact hp⟩, fun b u hb _ => by rw [upd_ne (ne_of_none hb hp)]; exact hb⟩
  refine ⟨e, by simp [T.len], ?_, fun n u hn => ?_⟩
  · rw [List.nodup_append]
    refine ⟨T.nd, by simp, fun a ha b hb => ?_⟩
    rw [List.mem_singleton] at hb
    rintro rfl
    exact np (hb ▸ ha)
  · by_cases hl : n < M.length
    · rw [List.getElem?_append_left hl] at hn
      obtain ⟨a, q, e1, e2, e3⟩ := T.at_ n u hn
      exact ⟨a, q, e.ix e1, by rw [upd_ne (ne_of_none e2 hp)]; exact e2, e3.ext T e⟩
    · rw [List.getElem?_append_right (by omega)] at hn
      have hz : n - M.length = 0 := by
        cases q : n - M.length with
        | zero => rfl
        | succ k => rw [q] at hn; simp at hn
      rw [hz] at hn
      have hn' : u = o := by simpa using hn.symm
      subst hn'
      refine ⟨p, h, ?_, upd_same, r.ext T e⟩
      rw [List.getElem?_append_right (by rw [T.len]; omega), T.len, hz]
      rfl
theorem Tie.newT (T : Tie K js H M) {p : Addr} {vs : List V} (hp : H p = none) : Ext js H js (upd H p (.tup vs)) ∧ Tie K js (upd H p (.tup vs)) M := by
  have e : Ext js H js (upd H p (.tup vs)) := ⟨⟨[], by simp, by simp⟩, fun b u hb _ => by rw [upd_ne (ne_of_none hb hp)]; exact hb⟩
  refine ⟨e, T.len, T.nd, fun n u hn => ?_⟩
  obtain ⟨a, q, e1, e2, e3⟩ := T.at_ n u hn
  exact ⟨a, q, e1, by rw [upd_ne (ne_of_none e2 hp)]; exact e2, e3.ext T e⟩
theorem Tie.set (T : Tie K js H M) {n : Nat} {a : Addr} {o : MO} {h : HO} (hn : js[n]? = some a) (r : RepO K js H o h) :
    Ext js H js (upd H a h) ∧ Tie K js (upd H a h) (M.set n o) := by
  have ha : a ∈ js := List.mem_of_getElem? hn
  have e : Ext js H js (upd H a h) := ⟨⟨[], by simp, by simp⟩, fun b u hb hj => by
    have hne : b ≠ a := fun z => hj (by rw [z]; exact ha)
    rw [upd_ne hne]; exact hb⟩
  refine ⟨e, by simp [T.len], T.nd, fun m u hm => ?_⟩
  by_cases hmn : m = n
  · subst hmn
    have hl : m < M.length := by rw [← T.len]; exact (List.getElem?_eq_some_iff.mp hn).1
    rw [List.getElem?_set_self hl] at hm
    cases hm
    exact ⟨a, h, hn, upd_same, r.ext T e⟩
  · rw [List.getElem?_set_ne (Ne.symm hmn)] at hm
    obtain ⟨b, q, e1, e2, e3⟩ := T.at_ m u hm
    refine ⟨b, q, e1, ?_, e3.ext T e⟩
    rw [upd_ne]
    · exact e2
    · rintro rfl
      obtain ⟨i1, q1⟩ := List.getElem?_eq_some_iff.mp e1
      obtain ⟨i2, q2⟩ := List.getElem?_eq_some_iff.mp hn
      exact hmn ((List.getElem_inj T.nd).mp (q1.trans q2.symm))

/-! ### an object beside -/
/-- no tuple, no frozen thing -/
def PlainO : HO → Prop
  | .tup _ => False
  | .frz _ _ => False
  | _ => True
theorem Kp.side {p : Addr} {o o1 : HO} (h : H p = some o) (hp : PlainO o) : Kp K js H js (upd H p o1) := by
  have ne1 : ∀ a vs, Rd H a (.tup vs) → a ≠ p := by
    rintro a vs (e | ⟨ob, e⟩) rfl
    · rw [h] at e; cases e; exact hp
    · rw [h] at e; cases e; exact hp
  refine ⟨fun _ _ e => e, fun a vs e => ?_, fun a vs e => ?_⟩
  · rcases e with e | e
    · have ne := ne1 a vs e
      rcases e with e | ⟨ob, e⟩
      · exact .inl (.inl (by rw [upd_ne ne]; exact e))
      · exact .inl (.inr ⟨ob, by rw [upd_ne ne]; exact e⟩)
    · exact .inr e
  · rcases e with ⟨ob, e⟩ | e
    · have ne : a ≠ p := by rintro rfl; rw [h] at e; cases e; exact hp
      exact .inl ⟨ob, by rw [upd_ne ne]; exact e⟩
    · exact .inr e
/-- the heap with an object at p that no number has: from H, where nothing stood at p -/
structure Beside (K : PySem.W.Frag) (js : List Addr) (H : Hp) (p : Addr) (js' : List Addr) (H' : Hp) (M' : Mem) (o : HO) : Prop where
  ext : Ext js H js' H'
  tie : Tie K js' H' M'
  out : p ∉ js'
  at_ : H' p = some o
  plain : PlainO o
theorem Beside.start (T : Tie K js H M) {p : Addr} {o : HO} (hp : H p = none) (pl : PlainO o) : Beside K js H p js (upd H p o) M o := by
  have e : Ext js H js (upd H p o) := ⟨⟨[], by simp, by simp⟩, fun b u hb _ => by rw [upd_ne (ne_of_none hb hp)]; exact hb⟩
  refine ⟨e, ⟨T.len, T.nd, fun n u hn => ?_⟩, T.notin hp, upd_same, pl⟩
  obtain ⟨a, q, e1, e2, e3⟩ := T.at_ n u hn
  exact ⟨a, q, e1, by rw [upd_ne (ne_of_none e2 hp)]; exact e2, e3.ext T e⟩
theorem Beside.go {p : Addr} {o : HO} {M2 : Mem} (b : Beside K js H p js' H' M' o) (x : Ext js' H' js2 H2) (T2 : Tie K js2 H2 M2) : Beside K js H p js2 H2 M2 o := by
  refine ⟨b.ext.trans b.tie x, T2, fun hm => ?_, x.keep p o b.at_ b.out, b.plain⟩
  obtain ⟨m, rfl, n⟩ := x.pre
  rcases List.mem_append.mp hm with hm | hm
  · exact b.out hm
  · have := n p hm
    rw [b.at_] at this; cases this
theorem Beside.put {p : Addr} {o o1 : HO} (hp : H p = none) (b : Beside K js H p js' H' M' o) (pl : PlainO o1) : Beside K js H p js' (upd H' p o1) M' o1 := by
  have kp : Kp K js' H' js' (upd H' p o1) := Kp.side b.at_ b.plain
  refine ⟨⟨b.ext.pre, fun c u hc hj => ?_⟩, ⟨b.tie.len, b.tie.nd, fun n u hn => ?_⟩, b.out, upd_same, pl⟩
  · rw [upd_ne (ne_of_none hc hp)]
    exact b.ext.keep c u hc hj
  · obtain ⟨a, q, e1, e2, e3⟩ := b.tie.at_ n u hn
    have ne : a ≠ p := fun z => b.out (z ▸ List.mem_of_getElem? e1)
    exact ⟨a, q, e1, by rw [upd_ne ne]; exact e2, e3.kp kp⟩
/-- it is given a number -/
theorem Beside.join {p : Addr} {o : HO} {mo : MO} (hp : H p = none) (b : Beside K js H p js' H' M' o) (r : RepO K js' H' mo o) : Ext js H (js' ++ [p]) H' ∧ Tie K (js' ++ [p]) H' (M' ++ [mo]) := by
  have kp : Kp K js' H' (js' ++ [p]) H' := ⟨fun n a h => by rw [List.getElem?_append_left (List.getElem?_eq_some_iff.mp h).1]; exact h, fun _ _ h => h, fun _ _ h => h⟩
  obtain ⟨more, e, hm⟩ := b.ext.pre
  refine ⟨⟨⟨more ++ [p], by rw [e, List.append_assoc], fun c hc => ?_⟩, b.ext.keep⟩, by simp [b.tie.len], ?_, fun n u hn => ?_⟩
  · rcases List.mem_append.mp hc with hc | hc
    · exact hm c hc
    · rw [List.mem_singleton.mp hc]; exact hp
  · rw [List.nodup_append]
    refine ⟨b.tie.nd, by simp, fun a ha c hc => ?_⟩
    rw [List.mem_singleton] at hc
    rintro rfl
    exact b.out (hc ▸ ha)
  · by_cases hl : n < M'.length
    · rw [List.getElem?_append_left hl] at hn
      obtain ⟨a, q, e1, e2, e3⟩ := b.tie.at_ n u hn
      exact ⟨a, q, kp.ix _ _ e1, e2, e3.kp kp⟩
    · rw [List.getElem?_append_right (by omega)] at hn
      have hz : n - M'.length = 0 := by
        cases q : n - M'.length with
        | zero => rfl
        | succ k => rw [q] at hn; simp at hn
      rw [hz] at hn
      have hn' : u = mo := by simpa using hn.symm
      subst hn'
      refine ⟨p, o, ?_, b.at_, r.kp kp⟩
      rw [List.getElem?_append_right (by rw [b.tie.len]; omega), b.tie.len, hz]
      rfl

/-! ### data -/
mutual
theorem Py.dp (T : Tie K js H M) : ∀ {d : D} {p : PyData} {v : V}, Py M d p → Rep K js H d v → Dp K H v p
  | _, _, _, .non, r => by cases r; exact .non
  | _, _, _, .bl b, r => by cases r; exact .bl b
  | _, _, _, .int i, r => by cases r; exact .int i
  | _, _, _, .str x, r => by cases r; exact .str x
  | _, _, _, .tup h, r => by
    cases r with
    | tup hs hr => exact .tup hs (PyAll.dp T h hr)
  | _, _, _, .lst e h, r => by
    cases r with
    | ref hj =>
      obtain ⟨a, u, e1, e2, e3⟩ := T.at_ _ _ e
      rw [hj] at e1; cases e1
      cases e3 with
      | lst hr => exact .lst (.inl (.inl e2)) (PyAll.dp T h hr)
  | _, _, _, .frl h, r => by
    cases r with
    | frl hs hr => exact .lst hs.sq (PyAll.dp T h hr)
theorem PyAll.dp (T : Tie K js H M) : ∀ {d : List D} {p : List PyData} {v : List V}, PyAll M d p → Reps K js H d v → DpAll K H v p
  | _, _, _, .nil, r => by cases r; exact .nil
  | _, _, _, .cons h hs, r => by
    cases r with
    | cons a b => exact .cons (Py.dp T h a) (PyAll.dp T hs b)
end
end
end Cp

namespace Cp
open PySem L2

/-! ### a run as a reading -/
/-- r tells a value, and whatever stands for it then Q holds -/
def Go {α β : Type} (K : PySem.W.Frag) (p : List Addr → Hp → α → β → Prop) (js : List Addr) (H : Hp) (r : R (α × Mem)) (Q : β → Hp → Prop) : Prop :=
  ∃ a M', r = .ok (a, M') ∧ ∀ js' H' b, Ext js H js' H' → Tie K js' H' M' → p js' H' a b → Q b H'
structure RepS (K : PySem.W.Frag) (js : List Addr) (H : Hp) (s : Ev) (t : St) : Prop where
  len : s.length = t.length
  at_ : ∀ (i : Nat) (d : D), s[i]? = some (some d) → ∃ v, t[i]? = some (some v) ∧ Rep K js H d v
abbrev EqP {α : Type} : List Addr → Hp → α → α → Prop := fun _ _ a b => a = b
def tE (K : PySem.W.Frag) (r : Ev → Mem → RD) : TE := fun t H Q => ∃ js M s, Tie K js H M ∧ RepS K js H s t ∧ Go K (Rep K) js H (r s M) Q
def tT (K : PySem.W.Frag) (r : Ev → Mem → R (Bool × Mem)) : TT := fun t H Q => ∃ js M s, Tie K js H M ∧ RepS K js H s t ∧ Go K EqP js H (r s M) Q
def tA (K : PySem.W.Frag) (r : Ev → Mem → R (List D × Mem)) : TA := fun t H Q => ∃ js M s, Tie K js H M ∧ RepS K js H s t ∧ Go K (Reps K) js H (r s M) Q
def tO (K : PySem.W.Frag) (r : Ev → Mem → R (Option Int × Mem)) : TO := fun t H Q => ∃ js M s, Tie K js H M ∧ RepS K js H s t ∧ Go K EqP js H (r s M) Q
section
variable {K : PySem.W.Frag} {js js' : List Addr} {H H' : Hp} {M M' : Mem} {α β γ δ : Type} {p : List Addr → Hp → α → β → Prop} {q : List Addr → Hp → γ → δ → Prop}
theorem RepS.ext {s : Ev} {t : St} (T : Tie K js H M) (e : Ext js H js' H') (r : RepS K js H s t) : RepS K js' H' s t :=
  ⟨r.len, fun i d h => let ⟨v, h1, h2⟩ := r.at_ i d h; ⟨v, h1, h2.ext T e⟩⟩
theorem RepS.set {s : Ev} {t : St} {d : D} {v : V} (r : RepS K js H s t) (h : Rep K js H d v) (i : Nat) : RepS K js H (s.set i (some d)) (t.set i (some v)) := by
  refine ⟨by simp [r.len], fun j e hj => ?_⟩
  by_cases hij : i = j
  · subst hij
    have hl : i < s.length := by
      have := (List.getElem?_eq_some_iff.mp hj).1
      simpa using this
    rw [List.getElem?_set_self hl] at hj
    cases hj
    exact ⟨v, List.getElem?_set_self (by rw [← r.len]; exact hl), h⟩
  · rw [List.getElem?_set_ne hij] at hj ⊢
    exact r.at_ j e hj
theorem RepS.unset {s : Ev} {t : St} (r : RepS K js H s t) (i : Nat) : RepS K js H (s.set i none) (t.set i none) := by
  refine ⟨by simp [r.len], fun j e hj => ?_⟩
  by_cases hij : i = j
  · subst hij
    have hl : i < s.length := by
      have := (List.getElem?_eq_some_iff.mp hj).1
      simpa using this
    rw [List.getElem?_set_self hl] at hj
    cases hj
  · rw [List.getElem?_set_ne hij] at hj ⊢
    exact r.at_ j e hj
theorem RepS.wipe {s : Ev} {t : St} (r : RepS K js H s t) : ∀ vs : List Nat, RepS K js H (wipeE s vs) (L2.wipe t vs)
  | [] => r
  | v :: vs => by
    unfold wipeE L2.wipe
    exact (RepS.wipe r vs).unset v
theorem Go.bind {r : R (α × Mem)} {k : α × Mem → R (γ × Mem)} {Q : δ → Hp → Prop} (g : Go K q js H (r.bind k) Q) :
    Go K p js H r fun b H1 => ∃ js1 M1 a, Tie K js1 H1 M1 ∧ Ext js H js1 H1 ∧ p js1 H1 a b ∧ Go K q js1 H1 (k (a, M1)) Q := by
  obtain ⟨c, M2, e, h⟩ := g
  cases r with
  | bad => cases e
  | exn x N => cases e
  | ok w =>
    obtain ⟨a, M1⟩ := w
    exact ⟨a, M1, rfl, fun js1 H1 b x1 T1 r1 => ⟨js1, M1, a, T1, x1, r1, c, M2, e, fun js2 H2 d x2 T2 r2 => h js2 H2 d (x1.trans T1 x2) T2 r2⟩⟩
theorem Go.mono {r : R (α × Mem)} {Q Q' : β → Hp → Prop} (g : Go K p js H r Q) (h : ∀ b H1, Q b H1 → Q' b H1) : Go K p js H r Q' :=
  let ⟨a, M1, e, k⟩ := g
  ⟨a, M1, e, fun js1 H1 b x T r => h _ _ (k js1 H1 b x T r)⟩
theorem Go.ok {a : α} {M1 : Mem} {Q : β → Hp → Prop} (g : Go K p js H (.ok (a, M1)) Q) {js1 : List Addr} {H1 : Hp} {b : β} (x : Ext js H js1 H1) (T : Tie K js1 H1 M1) (r : p js1 H1 a b) : Q b H1 := by
  obtain ⟨c, M2, e, h⟩ := g
  cases e
  exact h js1 H1 b x T r
theorem Go.bad {Q : β → Hp → Prop} (g : Go K p js H (.bad : R (α × Mem)) Q) {P : Prop} : P := by
  obtain ⟨_, _, e, _⟩ := g
  cases e
theorem Go.when {c : Prop} [Decidable c] {r : R (α × Mem)} {Q : β → Hp → Prop} (g : Go K p js H (R.when c r) Q) : c ∧ Go K p js H r Q := by
  unfold R.when at g
  split at g
  · rename_i h; exact ⟨h, g⟩
  · exact g.bad
theorem Go.of {o : Option γ} {k : γ → R (α × Mem)} {Q : β → Hp → Prop} (g : Go K p js H (R.of o k) Q) : ∃ a, o = some a ∧ Go K p js H (k a) Q := by
  cases o with
  | none => exact g.bad
  | some a => exact ⟨a, rfl, g⟩
/-- what is newly laid -/
theorem Go.new {o : MO} {h : HO} {Q : VK} (T : Tie K js H M) (g : Go K (Rep K) js H (newM M o) Q) (r : RepO K js H o h) : ∀ p, H p = none → Q (.ref p) (upd H p h) := fun p hp => by
  obtain ⟨x, T'⟩ := T.new hp r
  refine Go.ok g x T' (.ref ?_)
  rw [List.getElem?_append_right (by rw [T.len]; omega), T.len, Nat.sub_self]
  rfl
theorem Go.newT {ds : List D} {vs : List V} {Q : VK} (T : Tie K js H M) (g : Go K (Rep K) js H (.ok (.tup ds, M)) Q) (r : Reps K js H ds vs) : ∀ p, H p = none → Q (.ref p) (upd H p (.tup vs)) := fun p hp => by
  obtain ⟨x, T'⟩ := T.newT (vs := vs) hp
  exact Go.ok g x T' (.tup (.inl (.inl upd_same)) (r.ext T x))
end

/-! ### weaker readings -/
theorem pe_weak {X : Cx} {e : Expr} {t t' : TE} (h : PE X e t) (w : ∀ s H Q, t' s H Q → t s H Q) : PE X e t' := ⟨fun pins s σ H Q I q => h.run pins s σ H Q I (w _ _ _ q)⟩
theorem pt_weak {X : Cx} {e : Expr} {t t' : TT} (h : PT X e t) (w : ∀ s H Q, t' s H Q → t s H Q) : PT X e t' := ⟨fun pins s σ H Q I q => h.run pins s σ H Q I (w _ _ _ q)⟩
theorem pw_weak {X : Cx} {e : Expr} {t t' : TT} (h : PW X e t) (w : ∀ s H Q, t' s H Q → t s H Q) : PW X e t' := ⟨fun wh pins s σ H Q I q => h.run wh pins s σ H Q I (w _ _ _ q)⟩
theorem pa_weak {X : Cx} {e : List Expr} {t t' : TA} (h : PA X e t) (w : ∀ s H Q, t' s H Q → t s H Q) : PA X e t' := ⟨fun pos pins s σ H Q I q => h.run pos pins s σ H Q I (w _ _ _ q)⟩
theorem po_weak {X : Cx} {e : Option Expr} {t t' : TO} (h : PO X e t) (w : ∀ s H Q, t' s H Q → t s H Q) : PO X e t' := ⟨fun pins s σ H Q I q => h.run pins s σ H Q I (w _ _ _ q)⟩
theorem ps_weak {X : Cx} {e : Stmt} {t t' : TS} (h : PS X e t) (w : ∀ D s H, t' D s H → t D s H) : PS X e t' := ⟨fun pins s σ H D I q => h.run pins s σ H D I (w _ _ _ q)⟩
theorem pss_weak {X : Cx} {e : List Stmt} {t t' : TS} (h : PSs X e t) (w : ∀ D s H, t' D s H → t D s H) : PSs X e t' := ⟨fun pins s σ H D I q => h.run pins s σ H D I (w _ _ _ q)⟩
theorem pe_or {X : Cx} {e : Expr} {t u : TE} (h : PE X e t) (k : PE X e u) : PE X e (fun s H Q => t s H Q ∨ u s H Q) :=
  ⟨fun pins s σ H Q I q => q.elim (h.run pins s σ H Q I) (k.run pins s σ H Q I)⟩

/-! ### bools among ints -/
theorem add_bi (k : Bool) (j : Int) (u : Tok) : Gives (Builtin.«int.__add__» ⟨[.bool k, .int j u], []⟩) (.int ((if k = true then (1 : Int) else 0) + j)) :=
  .of_wp fun M A E sh Q q => by obtain ⟨h1, h2, h3, h4, h5⟩ := sh; wp_walk; exact ⟨_, rfl, q⟩
theorem sub_bi (k : Bool) (j : Int) (u : Tok) : Gives (Builtin.«int.__sub__» ⟨[.bool k, .int j u], []⟩) (.int ((if k = true then (1 : Int) else 0) - j)) :=
  .of_wp fun M A E sh Q q => by obtain ⟨h1, h2, h3, h4, h5⟩ := sh; wp_walk; exact ⟨_, rfl, q⟩
theorem no_sub_ib : isSubtype (.type "int") (.type "bool") = pure false := by rw [isSubtype_type]; kernel_rfl
section
variable {prog : Program} {w : World} {A : Around} {E : Value → Shared → Prop} {s : Shared} {k : Bool} {j : Int} {u : Tok}
theorem bool_add_int {Q : Value → Shared → Prop} (h : Q (.int ((if k = true then (1 : Int) else 0) + j) s.toks) { s with toks := s.toks + 1 }) : wpAny (model prog w) A (binaryOp .Add (.bool k) (.int j u)) Q E s :=
  binaryOp_left_gives (op := .Add) (T := "bool") (U := "int") (by decide) (typeIs_bool s k) (fun s' => typeIs_int s' j u) F.fills_bool_add F.fills_int_add no_sub_ib F.slot_bool_add F.slot_int_radd F.entry_int_add (F.args_int_add_2 _ _) (add_bi k j u) trivial h
theorem bool_sub_int {Q : Value → Shared → Prop} (h : Q (.int ((if k = true then (1 : Int) else 0) - j) s.toks) { s with toks := s.toks + 1 }) : wpAny (model prog w) A (binaryOp .Sub (.bool k) (.int j u)) Q E s :=
  binaryOp_left_gives (op := .Sub) (T := "bool") (U := "int") (by decide) (typeIs_bool s k) (fun s' => typeIs_int s' j u) F.fills_bool_sub F.fills_int_sub no_sub_ib F.slot_bool_sub F.slot_int_rsub F.entry_int_sub (F.args_int_sub_2 _ _) (sub_bi k j u) trivial h
end
/-! ### by values -/
/-- two values in -/
def rD2 (K : PySem.W.Frag) (f : Mem → D → D → RD) : R2 := fun x y H Q => ∃ js M d e, Tie K js H M ∧ Rep K js H d x ∧ Rep K js H e y ∧ Go K (Rep K) js H (f M d e) Q
/-- from a run of two parts to the parts -/
theorem two_parts {K : PySem.W.Frag} {ra rb : Ev → Mem → RD} {f : Mem → D → D → RD} {t : St} {H : Hp} {Q : VK}
    (h : tE K (fun s M => (ra s M).bind fun p => (rb s p.2).bind fun q => f q.2 p.1 q.1) t H Q) : tOp (rD2 K f) (tE K ra) (tE K rb) t H Q := by
  obtain ⟨js, M, s, T, S, g⟩ := h
  refine ⟨js, M, s, T, S, g.bind.mono ?_⟩
  rintro x H1 ⟨js1, M1, d, T1, x1, r1, g1⟩
  refine ⟨js1, M1, s, T1, S.ext T x1, g1.bind.mono ?_⟩
  rintro y H2 ⟨js2, M2, e, T2, x2, r2, g2⟩
  exact ⟨js2, M2, d, e, T2, r1.ext T1 x2, r2, g2⟩
theorem one_part {K : PySem.W.Frag} {ra : Ev → Mem → RD} {k : D → Mem → RD} {t : St} {H : Hp} {Q : VK}
    (h : tE K (fun s M => (ra s M).bind fun p => k p.1 p.2) t H Q) : tE K ra t H fun x H1 => ∃ js M d, Tie K js H1 M ∧ Rep K js H1 d x ∧ Go K (Rep K) js H1 (k d M) Q := by
  obtain ⟨js, M, s, T, S, g⟩ := h
  refine ⟨js, M, s, T, S, g.bind.mono ?_⟩
  rintro x H1 ⟨js1, M1, d, T1, x1, r1, g1⟩
  exact ⟨js1, M1, d, T1, r1, g1⟩
def O2.py : O2 → Operator
  | .add => .Add | .sub => .Sub | .mul => .Mult | .fdiv => .FloorDiv | .mod => .Mod | .pow => .Pow
def Cm.py : Cm → CmpOp
  | .eq => .Eq | .ne => .NotEq | .lt => .Lt | .le => .LtE | .gt => .Gt | .ge => .GtE | .is => .Is | .isn => .IsNot | .mem => .In | .nmem => .NotIn

theorem Rep.refH {K : PySem.W.Frag} {js : List Addr} {H : Hp} {M : Mem} {n : Nat} {x : V} {o : MO} (T : Tie K js H M) (r : Rep K js H (.ref n) x) (h : M[n]? = some o) : ∃ a u, x = .ref a ∧ js[n]? = some a ∧ H a = some u ∧ RepO K js H o u := by
  cases r with
  | ref hj =>
    obtain ⟨a, u, e1, e2, e3⟩ := T.at_ n o h
    rw [hj] at e1; cases e1
    exact ⟨_, u, rfl, hj, e2, e3⟩
section
variable {X : Cx}
theorem op_bin (o : O2) : OpR X (binaryOp o.py) (rD2 X.K fun M d e => binD M o d e) := by
  intro pins s σ H x y v u Q I rx ry h
  obtain ⟨js, M, d, e, T, r1, r2, g⟩ := h
  have g : Go X.K (Rep X.K) js H (binD M o d e) Q := g
  unfold binD at g
  split at g
  · cases r1; cases r2
    exact op_add pins s σ H _ _ v u Q I rx ry ⟨_, _, rfl, rfl, g.ok .refl T (.int _)⟩
  · cases r1; cases r2
    obtain ⟨c, g⟩ := g.when
    exact op_add_str pins s σ H _ _ v u Q I rx ry ⟨_, _, rfl, rfl, c, g.ok .refl T (.str _)⟩
  · rename_i xs ys
    obtain ⟨c, g⟩ := g.when
    cases r1 with
    | @tup _ a vs h1 k1 =>
      cases r2 with
      | @tup _ b ws h2 k2 =>
        refine op_catA pins s σ H _ _ v u Q I rx ry ⟨a, b, vs, ws, rfl, rfl, h1, h2, by rw [← k1.length, ← k2.length]; exact c, fun e => ?_, fun _ e => ?_, fun _ _ => ?_⟩
        · subst e
          cases k1
          exact g.ok .refl T (.tup h2 k2)
        · subst e
          cases k2
          refine g.ok .refl T ?_
          rw [List.append_nil]
          exact .tup h1 k1
        · exact g.newT T (k1.append k2)
  · split at g
    · rename_i a b _ _ xs ys e1 e2
      obtain ⟨c, g⟩ := g.when
      obtain ⟨p, u1, rfl, j1, h1, o1⟩ := r1.refH T e1
      obtain ⟨q, u2, rfl, j2, h2, o2⟩ := r2.refH T e2
      cases o1 with
      | lst k1 =>
        cases o2 with
        | lst k2 => exact op_cat pins s σ H _ _ v u Q I rx ry ⟨p, q, _, _, rfl, rfl, h1, h2, by rw [← k1.length, ← k2.length]; exact c, g.new T (.lst (k1.append k2))⟩
    · exact g.bad
  · cases r1; cases r2
    exact op_sub pins s σ H _ _ v u Q I rx ry ⟨_, _, rfl, rfl, g.ok .refl T (.int _)⟩
  · cases r1; cases r2
    obtain ⟨c, g⟩ := g.when
    unfold mulOk at c
    have c' := of_decide_eq_true c
    exact op_mulW pins s σ H _ _ v u Q I rx ry ⟨_, _, rfl, rfl, c', g.ok .refl T (.int _)⟩
  · cases r1; cases r2
    obtain ⟨c, g⟩ := g.when
    unfold divOk at c
    rw [Bool.and_eq_true] at c
    exact op_fdivW pins s σ H _ _ v u Q I rx ry ⟨_, _, rfl, rfl, ⟨of_decide_eq_true c.1, of_decide_eq_true c.2⟩, g.ok .refl T (.int _)⟩
  · cases r1; cases r2
    obtain ⟨c, g⟩ := g.when
    exact op_mod pins s σ H _ _ v u Q I rx ry ⟨_, _, rfl, rfl, c, g.ok .refl T (.int _)⟩
  · cases r1; cases r2
    obtain ⟨c, g⟩ := g.when
    unfold powOk at c
    rw [Bool.and_eq_true, Bool.and_eq_true] at c
    exact op_pow pins s σ H _ _ v u Q I rx ry ⟨_, _, rfl, rfl, ⟨of_decide_eq_true c.1.1, of_decide_eq_true c.1.2, of_decide_eq_true c.2⟩, g.ok .refl T (.int _)⟩
  · cases r1; cases r2
    cases (show v = Value.bool _ from rx)
    obtain ⟨t, rfl⟩ := ry
    exact bool_add_int ⟨.int _, H, I.tok _, ⟨_, rfl⟩, g.ok .refl T (.int _)⟩
  · cases r1; cases r2
    cases (show v = Value.bool _ from rx)
    obtain ⟨t, rfl⟩ := ry
    exact bool_sub_int ⟨.int _, H, I.tok _, ⟨_, rfl⟩, g.ok .refl T (.int _)⟩
  · cases r1; cases r2
    exact op_add_ib pins s σ H _ _ v u Q I rx ry ⟨_, _, rfl, rfl, g.ok .refl T (.int _)⟩
  · exact g.bad

/-! ### comparisons -/
theorem flat_rep {K : PySem.W.Frag} {js : List Addr} {H : Hp} {d : D} {v : V} (r : Rep K js H d v) (f : flatD d = true) : flatV v = true := by
  cases r <;> first | rfl | exact absurd f Bool.false_ne_true
theorem eqF_rep {K : PySem.W.Frag} {js : List Addr} {H : Hp} {d e : D} {v w : V} (r : Rep K js H d v) (q : Rep K js H e w) (f : flatD d = true) (g : flatD e = true) : eqV v w = eqF d e := by
  cases r <;> cases q <;> first | rfl | exact absurd f Bool.false_ne_true | exact absurd g Bool.false_ne_true
theorem flats_rep {K : PySem.W.Frag} {js : List Addr} {H : Hp} : ∀ {xs : List D} {vs : List V}, Reps K js H xs vs → xs.all flatD = true → vs.all flatV = true
  | _, _, .nil, _ => rfl
  | _, _, .cons h r, f => by
    rw [List.all_cons, Bool.and_eq_true] at f ⊢
    exact ⟨flat_rep h f.1, flats_rep r f.2⟩
theorem inF_rep {K : PySem.W.Frag} {js : List Addr} {H : Hp} {x : D} {v : V} (rx : Rep K js H x v) (fx : flatD x = true) : ∀ {xs : List D} {vs : List V}, Reps K js H xs vs → xs.all flatD = true → inV v vs = inF x xs
  | _, _, .nil, _ => rfl
  | _, _, .cons h r, f => by
    rw [List.all_cons, Bool.and_eq_true] at f
    have ih := inF_rep rx fx r f.2
    unfold inV inF at ih ⊢
    rw [List.any_cons, List.any_cons, eqF_rep h rx f.1 fx, ih]
theorem key_rep {K : PySem.W.Frag} {js : List Addr} {H : Hp} {d : D} {v : V} {k : Key} (r : Rep K js H d v) (e : keyD d = some k) : v = kV k := by
  cases r <;> first | (cases e; rfl) | (cases e)
theorem look_rep {K : PySem.W.Frag} {js : List Addr} {H : Hp} {k : Key} : ∀ {kvs : List (Key × D)} {ws : List (Key × V)}, kvs.map (·.1) = ws.map (·.1) → Reps K js H (kvs.map (·.2)) (ws.map (·.2)) →
    (lookD kvs k = none ∧ valV ws k = none) ∨ ∃ d v, lookD kvs k = some d ∧ valV ws k = some v ∧ Rep K js H d v
  | [], [], _, _ => .inl ⟨rfl, rfl⟩
  | [], _ :: _, e, _ => by cases e
  | _ :: _, [], e, _ => by cases e
  | (a, d) :: kvs, (b, v) :: ws, e, r => by
    rw [List.map_cons, List.map_cons] at e r
    injection e with e1 e2
    have e1' : a = b := e1
    subst e1'
    cases r with
    | cons h r =>
      by_cases hk : a = k
      · subst hk
        refine .inr ⟨d, v, ?_, valV_pos rfl, h⟩
        simp [lookD, List.find?_cons]
      · rcases look_rep (k := k) e2 r with ⟨h1, h2⟩ | ⟨d', v', h1, h2, h3⟩
        · refine .inl ⟨?_, by rw [valV_neg hk]; exact h2⟩
          simpa [lookD, List.find?_cons, hk] using h1
        · refine .inr ⟨d', v', ?_, by rw [valV_neg hk]; exact h2, h3⟩
          simpa [lookD, List.find?_cons, hk] using h1
end
end Cp

namespace Cp
open PySem L2 PyProof.Rows HT

/-! ### t[::-1] of a tuple -/
section
variable {prog : Program} {w : World} {A : Around} {E : Value → Shared → Prop} {s : Shared}
theorem back_adjust (n : Nat) : Builtin.Slice.sliceAdjust none none (-1) (n : Int) = ((n : Int) - 1, -1) := by
  unfold Builtin.Slice.sliceAdjust
  simp
theorem back_places (n : Nat) : Builtin.Slice.slicePlaces ((n : Int) - 1) (-1) (-1) = n := by
  unfold Builtin.Slice.slicePlaces
  have h1 : ¬ ((-1 : Int) > 0) := by omega
  rw [if_neg h1]
  by_cases h : (n : Int) - 1 > -1
  · rw [if_pos h]
    simp only [Int.neg_neg, Int.ediv_one]
    omega
  · rw [if_neg h]
    omega
theorem fm_map {α β : Type} {f : α → Option β} {g : α → β} : ∀ {l : List α}, (∀ x ∈ l, f x = some (g x)) → l.filterMap f = l.map g
  | [], _ => rfl
  | x :: l, h => by rw [List.filterMap_cons, h x List.mem_cons_self, List.map_cons, fm_map fun y hy => h y (List.mem_cons_of_mem _ hy)]
theorem back_pick (xs : Array Value) : ((List.range xs.size).filterMap fun (k : Nat) => xs[(((xs.size : Int) - 1) + (k : Int) * (-1)).toNat]?) = xs.toList.reverse := by
  apply List.ext_getElem?
  intro i
  have e : ∀ k ∈ List.range xs.size, xs[(((xs.size : Int) - 1) + (k : Int) * (-1)).toNat]? = some (xs.toList.reverse.getD k default) := by
    intro k hk
    rw [List.mem_range] at hk
    have h1 : (((xs.size : Int) - 1) + (k : Int) * (-1)).toNat = xs.size - 1 - k := by omega
    rw [h1, ← Array.getElem?_toList, List.getD_eq_getElem?_getD, List.getElem?_reverse (by simpa using hk), Array.length_toList]
    rw [List.getElem?_eq_getElem (by rw [Array.length_toList]; omega)]
    rfl
  have e2 : ((List.range xs.size).filterMap fun (k : Nat) => xs[(((xs.size : Int) - 1) + (k : Int) * (-1)).toNat]?) = (List.range xs.size).map fun k => xs.toList.reverse.getD k default := by
    exact fm_map e
  rw [e2]
  by_cases hi : i < xs.size
  · rw [List.getElem?_map, List.getElem?_range hi, List.getElem?_eq_getElem (by simpa using hi)]
    simp [List.getD_eq_getElem?_getD, hi]
  · rw [List.getElem?_eq_none (by simp; omega), List.getElem?_eq_none (by simp; omega)]
theorem back_applied {sl : Addr} {vs : Value} {n : Nat} {Q : Int × Int × Nat → Shared → Prop} (hs : s.heap.IsSliceOf sl .none .none vs) (ps : IsPart vs (some (-1)))
    (h : Q ((n : Int) - 1, -1, n) s) : wpAny (model prog w) A (Builtin.Slice.sliceApplied (.ref sl) (pure (n : Int))) Q E s := by
  obtain ⟨so, sh, sc, sd⟩ := id hs
  unfold Builtin.Slice.sliceApplied Builtin.Slice.sliceFields
  refine wpAny_bind (wpAny_bind (wpAny_field sh sd (x := .none) rfl (wpAny_bind (wpAny_field sh sd (x := .none) rfl (wpAny_bind (wpAny_field sh sd (x := vs) rfl (wpAny_pure ?_)))))))
  refine wpAny_bind (slicePart_ ps ?_)
  show wpAny _ _ (if ((-1 : Int) == 0) = true then _ else _) _ _ s
  rw [if_neg (by decide)]
  refine wpAny_bind (slicePart_none (wpAny_bind (slicePart_none (wpAny_bind (wpAny_pure ?_)))))
  show wpAny _ _ (match Builtin.Slice.sliceAdjust none none (-1) (n : Int) with | (lo, hi) => pure (lo, (-1 : Int), Builtin.Slice.slicePlaces lo hi (-1))) _ _ s
  rw [back_adjust n]
  show wpAny _ _ (pure ((n : Int) - 1, (-1 : Int), Builtin.Slice.slicePlaces ((n : Int) - 1) (-1) (-1))) _ _ s
  rw [back_places]
  exact wpAny_pure h
theorem getItem_tuple_back {t sl : Addr} {items : Array Value} {vs : Value} {Q : Value → Shared → Prop} (ht : IsTup s.heap t items) (hs : s.heap.IsSliceOf sl .none .none vs) (ps : IsPart vs (some (-1)))
    (h : Q (.ref s.heap.objs.size) { s with heap := s.heap.push { cls := .type "tuple", data := .seq items.toList.reverse.toArray } })
    (hsz : items.size ≤ sizeLine) : wpAny (model prog w) A (getItem (.ref t) (.ref sl)) Q E s := by
  have fit : sizeOk (.seq items.toList.reverse.toArray) := by
    show items.toList.reverse.toArray.size ≤ sizeLine
    simpa using hsz
  obtain ⟨so, sh, sc, sd⟩ := id hs
  have tS : s.TypeIs (.ref sl) "slice" := ⟨so, sh, sc⟩
  unfold getItem
  try with_reducible refine wpAny_holding ?_
  first | refine wpAny_bind (wpAny_pure ?_) | skip
  refine wpAny_bind (wpAny_sequenceKey (ht.typeIs) (by decide) ?_)
  refine wpAny_bind (wpAny_callSpecial?_slot (name := Str.ofString "__getitem__") ht.typeIs slot_tuple_getitem (wpAny_call_entry slot_tuple_getitem ht.typeIs entry_tuple_getitem ?_ (args_tuple_getitem _ _)))
  show wpAny _ _ (Builtin.Tuple.tupleItemsOf (.ref t) >>= _) _ _ s
  refine wpAny_bind (tupleItemsOf_ ht (wpAny_bind (wpAny_typeOf tS ?_)))
  rw [if_pos (by decide)]
  refine wpAny_bind (back_applied hs ps ?_)
  show wpAny _ _ (if ((((items.size : Int) - 1)) == 0 && (-1 : Int) == 1 && items.size == items.size) = true then _ else _) _ _ s
  rw [if_neg (by simp), back_pick]
  first
    | exact wpAny_bind (m := Builtin.Tuple.tupleExact _) (wpAny_newObj_type (wpAny_pure ⟨_, rfl, wpAny_pure h⟩) fit)
    | exact wpAny_bind (m := Builtin.Tuple.tupleExact _) (wpAny_newObj_type (wpAny_bind (wpAny_pure (wpAny_pure ⟨_, rfl, wpAny_pure h⟩))) fit)
    | exact wpAny_bind (wpAny_bind (m := Builtin.Tuple.tupleExact _) (wpAny_newObj_type (wpAny_pure (wpAny_pure ⟨_, rfl, wpAny_pure h⟩)) fit))
    | exact wpAny_bind (wpAny_bind (m := Builtin.Tuple.tupleExact _) (wpAny_newObj_type (wpAny_pure ⟨_, rfl, wpAny_pure h⟩) fit))
end
section
variable {X : Cx} {pos : Pos}
/-- x[::-1], a tuple or a list -/
def tRev (K : PySem.W.Frag) (te : TE) : TE := fun σ H Q => te σ H fun x H1 => (∃ a xs, x = .ref a ∧ SqL K H1 a xs ∧ ∀ p, H1 p = none → Q (.ref p) (upd H1 p (.lst xs.reverse))) ∨
  ∃ a xs, x = .ref a ∧ SqT K H1 a xs ∧ ∀ p, H1 p = none → Q (.ref p) (upd H1 p (.tup xs.reverse))
theorem pe_rev {e : Expr} {te : TE} {k : Nat} {p1 p2 p3 pos : Pos} (he : PE X e te) : PE X (.Subscript e (.Slice none none (some (.UnaryOp .USub (.Constant (.int 1) k p1) p2)) p3) pos) (tRev X.K te) := by
  refine ⟨fun pins s σ H Q I h => ?_⟩
  refine Subscript_ (thn (he.run pins s σ H _ I h) fun v s1 ⟨x, H1, I1, r1, q⟩ => ?_)
  have minus : PO X (some (.UnaryOp .USub (.Constant (.int 1) k p1) p2)) (tPart (tUn (rU fun i => .int (-i)) (tC (.int 1)))) := po_some (pe_un un_neg pe_int)
  refine wpAny_Slice (thn (po_none.run pins s1 σ H1 (fun o H2 => o = none ∧ H2 = H1) I1 ⟨rfl, rfl⟩) fun vl s2 ⟨l, H2, I2, pl, el, e2⟩ => ?_)
  subst el e2
  refine thn (po_none.run pins s2 σ H2 (fun o H3 => o = none ∧ H3 = H2) I2 ⟨rfl, rfl⟩) fun vu s3 ⟨u, H3, I3, pu, eu, e3⟩ => ?_
  subst eu e3
  refine thn (minus.run pins s3 σ H3 (fun o H4 => o = some (-1) ∧ H4 = H3) I3 ⟨1, rfl, -1, rfl, rfl, rfl⟩) fun vs s4 ⟨o, H4, I4, ps, eo, e4⟩ => ?_
  subst eo e4
  have I5 : Inv X pins σ H4 { s4 with heap := s4.heap.push { cls := .type "slice", data := .fields #[vl, vu, vs] } } := I4.kept (t' := s4.toks) fun b ob z => Heap.get?_push_of_some _ z
  show wpAny (model X.prog X.w) X.A (subscriptTail e (.Slice none none (some (.UnaryOp .USub (.Constant (.int 1) k p1) p2)) p3) v (.ref s4.heap.objs.size)) (EP X pins σ Q) X.xe { s4 with heap := s4.heap.push { cls := .type "slice", data := .fields #[vl, vu, vs] } }
  rcases q with ⟨a, xs, ex, hx, q⟩ | ⟨a, xs, ex, hx, q⟩
  · subst ex
    cases r1
    obtain ⟨its, r, ht, hz⟩ := I5.list hx
    have hlen := r.length
    refine tail_any (ops := [.ref a, .ref s4.heap.objs.size]) ht.isList.typeIs (PySem.slot_list_getitem.lookup) ?_ (by with_unfolding_all rfl)
    refine wpAny_getItem_list_slice ht.isList (Heap.IsSliceOf.new _ vl vu vs) pl pu ps (by decide) ?_ (by rw [List.size_toArray]; omega)
    rw [PySem.W.krv_pick]
    refine ⟨.ref _, _, I5.laid (t' := s4.toks) (o := .lst xs.reverse) (fun b ob z => Heap.get?_push_of_some _ z) (Nat.le_refl _) ?_, rfl, q _ (I5.hok.fresh (Nat.le_refl _))⟩
    exact ⟨by rw [List.length_reverse]; exact hz, _, 0, r.reverse, Heap.get?_push_size _ rfl⟩
  · subst ex
    cases r1
    cases pl
    cases pu
    obtain ⟨its, r, ht, hz⟩ := I5.tuple hx
    have hlen := r.length
    refine tail_any (ops := [.ref a, .ref s4.heap.objs.size]) ht.typeIs slot_tuple_getitem.lookup ?_ (by with_unfolding_all rfl)
    refine getItem_tuple_back ht (Heap.IsSliceOf.new _ .none .none vs) ps ?_ (by rw [List.size_toArray]; omega)
    refine ⟨.ref _, _, I5.laid (t' := s4.toks) (o := .tup xs.reverse) (fun b ob z => Heap.get?_push_of_some _ z) (Nat.le_refl _) ?_, rfl, q _ (I5.hok.fresh (Nat.le_refl _))⟩
    exact ⟨by rw [List.length_reverse]; exact hz, _, r.reverse, ⟨_, Heap.get?_push_size _ rfl, rfl, _, rfl⟩⟩

/-! ### comparisons, subscripts by values -/
def rC2 (K : PySem.W.Frag) (c : Cm) : R2 := fun x y H Q => ∃ js M d e k, Tie K js H M ∧ Rep K js H d x ∧ Rep K js H e y ∧ cmpD M c d e = some k ∧ Q (.bl k) H
def isNonD : D → Bool
  | .non => true
  | _ => false
theorem isN_rep {K : PySem.W.Frag} {js : List Addr} {H : Hp} {d : D} {v : V} (r : Rep K js H d v) : decide (v = V.non) = isNonD d := by
  cases r <;> rfl
theorem op_in (hu : X.A.units + 65 < cLine) : OpR X (compareOp .In) (fun x y H Q => ∃ js M d e k, Tie X.K js H M ∧ Rep X.K js H d x ∧ Rep X.K js H e y ∧ inD M d e = some k ∧ Q (.bl k) H) := by
  intro pins s σ H x y v u Q I rx ry h
  obtain ⟨js, M, d, e, k, T, r1, r2, c, q⟩ := h
  unfold inD at c
  split at c
  · split at c
    · cases r1; cases r2; cases c
      exact op_in_str pins s σ H _ _ v u Q I rx ry ⟨_, _, rfl, rfl, q⟩
    · cases c
  · rename_i xs
    split at c
    · rename_i f
      rw [Bool.and_eq_true] at f
      cases c
      cases r2 with
      | @tup _ b ws h2 k2 =>
        refine op_in_seq pins s σ H _ _ v u Q I rx ry ⟨b, ws, rfl, .inr h2, flat_rep r1 f.1, flats_rep k2 f.2, ?_⟩
        rw [inF_rep r1 f.1 k2 f.2]
        exact q
    · cases c
  · split at c
    · rename_i a _ kvs e1
      obtain ⟨p, u1, rfl, j1, h1, o1⟩ := r2.refH T e1
      cases o1 with
      | dct hk hr =>
        obtain ⟨key, ek, ec⟩ := Option.map_eq_some_iff.mp c
        cases (show u = Value.ref p from ry)
        rw [key_rep r1 ek] at rx
        refine d_in (by omega) I (.k h1) rx fun s' I' => ⟨.bl _, H, I', rfl, ?_⟩
        rcases look_rep (k := key) hk hr with ⟨z1, z2⟩ | ⟨_, _, z1, z2, _⟩ <;> (rw [z2]; rw [z1] at ec; subst ec; exact q)
    · rename_i a _ xs e1
      obtain ⟨p, u1, rfl, j1, h1, o1⟩ := r2.refH T e1
      cases o1 with
      | lst k2 =>
        split at c
        · rename_i f
          rw [Bool.and_eq_true] at f
          cases c
          refine op_in_seq pins s σ H _ _ v u Q I rx ry ⟨p, _, rfl, .inl (.inl (.inl h1)), flat_rep r1 f.1, flats_rep k2 f.2, ?_⟩
          rw [inF_rep r1 f.1 k2 f.2]
          exact q
        · obtain ⟨dd, ed, c⟩ := Option.bind_eq_some_iff.mp c
          obtain ⟨ee, eee, c⟩ := Option.bind_eq_some_iff.mp c
          split at c
          · rename_i ds
            split at c
            · rename_i f
              rw [Bool.and_eq_true] at f
              cases c
              exact op_inD hu pins s σ H _ _ v u Q I rx ry ⟨dd, ds, (of_tree ed).dp T r1, (of_tree eee).dp T r2, f.1, f.2, q⟩
            · cases c
          · cases c
    · cases c
  · cases c
theorem op_nin (hu : X.A.units + 65 < cLine) : OpR X (compareOp .NotIn) (fun x y H Q => ∃ js M d e k, Tie X.K js H M ∧ Rep X.K js H d x ∧ Rep X.K js H e y ∧ inD M d e = some k ∧ Q (.bl (!k)) H) := by
  intro pins s σ H x y v u Q I rx ry h
  obtain ⟨js, M, d, e, k, T, r1, r2, c, q⟩ := h
  unfold inD at c
  split at c
  · split at c
    · cases r1; cases r2; cases c
      exact op_notin_str pins s σ H _ _ v u Q I rx ry ⟨_, _, rfl, rfl, q⟩
    · cases c
  · rename_i xs
    split at c
    · rename_i f
      rw [Bool.and_eq_true] at f
      cases c
      cases r2 with
      | @tup _ b ws h2 k2 =>
        refine op_notIn_seq pins s σ H _ _ v u Q I rx ry ⟨b, ws, rfl, .inr h2, flat_rep r1 f.1, flats_rep k2 f.2, ?_⟩
        rw [inF_rep r1 f.1 k2 f.2]
        exact q
    · cases c
  · split at c
    · rename_i a _ kvs e1
      obtain ⟨p, u1, rfl, j1, h1, o1⟩ := r2.refH T e1
      cases o1 with
      | dct hk hr =>
        obtain ⟨key, ek, ec⟩ := Option.map_eq_some_iff.mp c
        cases (show u = Value.ref p from ry)
        rw [key_rep r1 ek] at rx
        refine d_notIn (by omega) I (.k h1) rx fun s' I' => ⟨.bl _, H, I', rfl, ?_⟩
        rcases look_rep (k := key) hk hr with ⟨z1, z2⟩ | ⟨_, _, z1, z2, _⟩ <;> (rw [z2]; rw [z1] at ec; subst ec; exact q)
    · rename_i a _ xs e1
      obtain ⟨p, u1, rfl, j1, h1, o1⟩ := r2.refH T e1
      cases o1 with
      | lst k2 =>
        split at c
        · rename_i f
          rw [Bool.and_eq_true] at f
          cases c
          refine op_notIn_seq pins s σ H _ _ v u Q I rx ry ⟨p, _, rfl, .inl (.inl (.inl h1)), flat_rep r1 f.1, flats_rep k2 f.2, ?_⟩
          rw [inF_rep r1 f.1 k2 f.2]
          exact q
        · obtain ⟨dd, ed, c⟩ := Option.bind_eq_some_iff.mp c
          obtain ⟨ee, eee, c⟩ := Option.bind_eq_some_iff.mp c
          split at c
          · rename_i ds
            split at c
            · rename_i f
              rw [Bool.and_eq_true] at f
              cases c
              exact op_notInD hu pins s σ H _ _ v u Q I rx ry ⟨dd, ds, (of_tree ed).dp T r1, (of_tree eee).dp T r2, f.1, f.2, q⟩
            · cases c
          · cases c
    · cases c
  · cases c
theorem op_cmp (hu : X.A.units + 65 < cLine) (c : Cm) : OpR X (compareOp c.py) (rC2 X.K c) := by
  intro pins s σ H x y v u Q I rx ry h
  obtain ⟨js, M, d, e, k, T, r1, r2, h, q⟩ := h
  cases c with
  | eq =>
    by_cases hs : ∃ x y, d = .str x ∧ e = .str y
    · obtain ⟨x, y, rfl, rfl⟩ := hs
      cases h; cases r1; cases r2
      exact op_eq pins s σ H _ _ v u Q I rx ry ⟨rfl, by rw [dec_str]; exact q⟩
    have h : eqD M d e = some k := by cases d <;> cases e <;> first | exact h | exact absurd ⟨_, _, rfl, rfl⟩ hs
    obtain ⟨dp, ep, h1, h2, s1, s2, rfl⟩ := of_eqD h
    exact op_eqD (by omega) pins s σ H _ _ v u Q I rx ry ⟨dp, ep, h1.dp T r1, h2.dp T r2, s1, s2, q⟩
  | ne =>
    by_cases hs : ∃ x y, d = .str x ∧ e = .str y
    · obtain ⟨x, y, rfl, rfl⟩ := hs
      cases h; cases r1; cases r2
      exact op_ne pins s σ H _ _ v u Q I rx ry ⟨rfl, by rw [dec_str]; exact q⟩
    have h : (eqD M d e).map (!·) = some k := by cases d <;> cases e <;> first | exact h | exact absurd ⟨_, _, rfl, rfl⟩ hs
    obtain ⟨b, hb, rfl⟩ := Option.map_eq_some_iff.mp h
    obtain ⟨dp, ep, h1, h2, s1, s2, rfl⟩ := of_eqD hb
    exact op_neD (by omega) pins s σ H _ _ v u Q I rx ry ⟨dp, ep, h1.dp T r1, h2.dp T r2, s1, s2, q⟩
  | lt =>
    cases d <;> cases e <;> first | (cases h) | skip
    cases r1; cases r2
    exact op_lt pins s σ H _ _ v u Q I rx ry ⟨_, _, rfl, rfl, q⟩
  | le =>
    cases d <;> cases e <;> first | (cases h) | skip
    cases r1; cases r2
    exact op_le pins s σ H _ _ v u Q I rx ry ⟨_, _, rfl, rfl, q⟩
  | gt =>
    cases d <;> cases e <;> first | (cases h) | skip
    cases r1; cases r2
    exact op_gt pins s σ H _ _ v u Q I rx ry ⟨_, _, rfl, rfl, q⟩
  | ge =>
    cases d <;> cases e <;> first | (cases h) | skip
    cases r1; cases r2
    exact op_ge pins s σ H _ _ v u Q I rx ry ⟨_, _, rfl, rfl, q⟩
  | is =>
    have he : e = .non ∧ k = isNonD d := by
      cases d <;> cases e <;> first | (cases h; exact ⟨rfl, rfl⟩) | (cases h)
    obtain ⟨rfl, hk⟩ := he
    cases r2
    refine op_isN pins s σ H _ _ v u Q I rx ry ⟨rfl, ?_⟩
    rw [isN_rep r1, ← hk]
    exact q
  | isn =>
    have he : e = .non ∧ k = !isNonD d := by
      cases d <;> cases e <;> first | (cases h; exact ⟨rfl, rfl⟩) | (cases h)
    obtain ⟨rfl, hk⟩ := he
    cases r2
    refine op_notN pins s σ H _ _ v u Q I rx ry ⟨rfl, ?_⟩
    rw [isN_rep r1, ← hk]
    exact q
  | mem => exact op_in hu pins s σ H _ _ v u Q I rx ry ⟨js, M, d, e, k, T, r1, r2, h, q⟩
  | nmem =>
    obtain ⟨b, hb, rfl⟩ := Option.map_eq_some_iff.mp h
    exact op_nin hu pins s σ H _ _ v u Q I rx ry ⟨js, M, d, e, b, T, r1, r2, hb, q⟩
theorem atI_rep {K : PySem.W.Frag} {js : List Addr} {H : Hp} {xs : List D} {vs : List V} {i : Int} {d : D} (r : Reps K js H xs vs) (h : atI xs i = some d) : ∃ v, atI vs i = some v ∧ Rep K js H d v := by
  unfold atI at h ⊢
  rw [← r.length]
  obtain ⟨j, e1, e2⟩ := Option.bind_eq_some_iff.mp h
  obtain ⟨v, h1, h2⟩ := r.get e2
  rw [e1]
  exact ⟨v, h1, h2⟩
/-- a[b] -/
def rIx2 (K : PySem.W.Frag) : R2 := fun x y H Q => ∃ js M d e r, Tie K js H M ∧ Rep K js H d x ∧ Rep K js H e y ∧ idxD M d e = some r ∧ ∀ v, Rep K js H r v → Q v H
theorem ix_any (hu : X.A.units + 1 < cLine) : IxR X (rIx2 X.K) := by
  intro value slice pins s σ H x y v u Q I rx ry h hs
  obtain ⟨js, M, d, e, r, T, r1, r2, h, q⟩ := h
  unfold idxD at h
  split at h
  · rename_i xs
    split at h
    · cases r2
      cases r1 with
      | @tup _ b ws h2 k2 =>
        obtain ⟨z, h3, h4⟩ := atI_rep k2 h
        exact ix_tup value slice pins s σ H _ _ v u Q I rx ry ⟨b, ws, _, z, rfl, rfl, h2, h3, q _ h4⟩ hs
    · cases h
  · rename_i xs
    split at h
    · cases r2
      cases r1 with
      | @frl _ b ws h2 k2 =>
        obtain ⟨z, h3, h4⟩ := atI_rep k2 h
        exact ix_list value slice pins s σ H _ _ v u Q I rx ry ⟨b, ws, _, z, rfl, rfl, h2.sq, h3, q _ h4⟩ hs
    · cases h
  · split at h
    · split at h
      · rename_i hz
        cases r1; cases r2
        obtain ⟨c, h1, h2⟩ := Option.map_eq_some_iff.mp h
        subst h2
        exact ix_str value slice pins s σ H _ _ v u Q I rx ry ⟨_, _, c, rfl, rfl, hz, h1, q _ (.str _)⟩ hs
      · cases h
    · cases h
  · split at h
    · rename_i e1
      obtain ⟨p, u1, rfl, j1, h1, o1⟩ := r1.refH T e1
      cases o1 with
      | lst k2 =>
        split at h
        · cases r2
          obtain ⟨z, h3, h4⟩ := atI_rep k2 h
          exact ix_list value slice pins s σ H _ _ v u Q I rx ry ⟨p, _, _, z, rfl, rfl, .inl (.inl h1), h3, q _ h4⟩ hs
        · cases h
    · rename_i e1
      obtain ⟨p, u1, rfl, j1, h1, o1⟩ := r1.refH T e1
      cases o1 with
      | dct hk hr =>
        obtain ⟨key, ek, ec⟩ := Option.bind_eq_some_iff.mp h
        cases (show v = Value.ref p from rx)
        rw [key_rep r2 ek] at ry
        rcases look_rep (k := key) hk hr with ⟨z1, z2⟩ | ⟨d', v', z1, z2, z3⟩
        · rw [z1] at ec; cases ec
        · rw [z1] at ec; cases ec
          have g : DGet H p (kV key) (some v') := by rw [← z2]; exact .k h1
          exact tail_any (dict_typeIs I g) PySem.F.slot_dict_getitem.lookup (d_getItem hu I g ry fun w' s' I' rw' => ⟨v', H, I', rw', q _ z3⟩) hs
    · cases h
  · cases h
theorem cutL_rep {K : PySem.W.Frag} {js : List Addr} {H : Hp} {xs : List D} {vs : List V} {lo hi : Option Int} (r : Reps K js H xs vs) : Reps K js H (cutL xs lo hi) (cutV vs lo hi) := by
  unfold cutL cutV
  rw [r.length]
  exact (r.drop _).take _
theorem cut_whole {α : Type} {xs : List α} {lo hi : Option Int} (h : sIx xs.length 0 lo = 0 ∧ sIx xs.length xs.length hi = xs.length) : cutL xs lo hi = xs := by
  unfold cutL
  rw [h.1, h.2]
  simp
/-- a[lo:hi] -/
def rSl2 (K : PySem.W.Frag) : V → Option Int → Option Int → Hp → VK → Prop := fun x lo hi H Q => ∃ js M d, Tie K js H M ∧ Rep K js H d x ∧ Go K (Rep K) js H (slcD M d lo hi) Q
theorem sl_any : SlR X (rSl2 X.K) := by
  intro pins s σ H x v vl vu lo hi sl Q I rx hs pl pu h
  obtain ⟨js, M, d, T, r1, g⟩ := h
  unfold slcD at g
  split at g
  · rename_i xs
    cases r1 with
    | @tup _ b ws h2 k2 =>
      refine sl_tupA pins s σ H _ v vl vu lo hi sl Q I rx hs pl pu ⟨b, ws, rfl, h2, fun e => ?_, fun _ => g.newT T (cutL_rep k2)⟩
      have e' := e
      rw [← k2.length] at e'
      rw [cut_whole e'] at g
      exact g.ok .refl T (.tup h2 k2)
  · cases r1 with
    | @frl _ b ws h2 k2 => exact sl_list pins s σ H _ v vl vu lo hi sl Q I rx hs pl pu ⟨b, ws, rfl, h2.sq, g.new T (.lst (cutL_rep k2))⟩
  · obtain ⟨c, g⟩ := g.when
    cases r1
    exact sl_str pins s σ H _ v vl vu lo hi sl Q I rx hs pl pu ⟨_, rfl, c, g.ok .refl T (.str _)⟩
  · split at g
    · rename_i e1
      obtain ⟨p, u1, rfl, j1, h1, o1⟩ := r1.refH T e1
      cases o1 with
      | lst k2 => exact sl_list pins s σ H _ v vl vu lo hi sl Q I rx hs pl pu ⟨p, _, rfl, .inl (.inl h1), g.new T (.lst (cutL_rep k2))⟩
    · exact g.bad
  · exact g.bad
/-- truth -/
theorem tru_any : TruR X (fun x H Q => ∃ js M d b, Tie X.K js H M ∧ Rep X.K js H d x ∧ truth M d = some b ∧ Q b H) := by
  intro pins s σ H x v Q I rx h
  obtain ⟨js, M, d, b, T, r1, h, q⟩ := h
  refine tru_ok pins s σ H x v Q I rx ⟨b, ?_, q⟩
  unfold truth at h
  split at h
  · cases h; cases r1; rfl
  · cases h; cases r1; rfl
  · cases h; cases r1; rfl
  · split at h
    · cases h; cases r1; exact ⟨by assumption, rfl⟩
    · cases h
  · cases h
    cases r1 with
    | @tup xs b ws h2 k2 =>
      refine .inr (.inl ⟨ws, h2, ?_⟩)
      cases k2 <;> rfl
  · cases h
    cases r1 with
    | @frl xs b ws h2 k2 =>
      refine .inl ⟨ws, h2.sq, ?_⟩
      cases k2 <;> rfl
  · split at h
    · rename_i e1
      cases h
      obtain ⟨p, u1, rfl, j1, h1, o1⟩ := r1.refH T e1
      cases o1 with
      | lst k2 => exact .inl ⟨_, .inl (.inl h1), by cases k2 <;> rfl⟩
    · rename_i kvs e1
      cases h
      obtain ⟨p, u1, rfl, j1, h1, o1⟩ := r1.refH T e1
      cases o1 with
      | @dct _ ws hk _ =>
        refine .inr (.inr ⟨ws, h1, ?_⟩)
        cases kvs <;> cases ws <;> first | rfl | (cases hk)
    · cases h
end
end Cp

namespace Cp
open PySem L2 PyProof.Rows HT

mutual
theorem Py.noDict {M : Mem} : ∀ {d : D} {p : PyData}, Py M d p → p.hasDict = false
  | _, _, .non => by simp only [PyData.hasDict]
  | _, _, .bl _ => by simp only [PyData.hasDict]
  | _, _, .int _ => by simp only [PyData.hasDict]
  | _, _, .str _ => by simp only [PyData.hasDict]
  | _, _, .tup h => by simp only [PyData.hasDict]; exact PyAll.noDict h
  | _, _, .lst _ h => by simp only [PyData.hasDict]; exact PyAll.noDict h
  | _, _, .frl h => by simp only [PyData.hasDict]; exact PyAll.noDict h
theorem PyAll.noDict {M : Mem} : ∀ {d : List D} {p : List PyData}, PyAll M d p → PyData.hasDictAll p = false
  | _, _, .nil => by simp only [PyData.hasDictAll]
  | _, _, .cons h hs => by simp only [PyData.hasDictAll, Py.noDict h, PyAll.noDict hs, Bool.or_self]
end
/-- the builtin as a value -/
def Bi.val : Bi → Value
  | .len => .builtin "len" | .list => .type "list" | .tuple => .type "tuple" | .str => .type "str" | .repr => .builtin "repr" | .ord => .builtin "ord" | .int => .type "int"
  | .all => .builtin "all" | .any => .builtin "any" | .sum => .builtin "sum" | .sorted => .builtin "sorted" | .max => .builtin "max" | .min => .builtin "min" | .dict => .type "dict" | .set => .type "set"
def rBi (K : PySem.W.Frag) (b : Bi) : List V → Hp → VK → Prop := fun xs H Q => ∃ js M ds, Tie K js H M ∧ Reps K js H ds xs ∧ Go K (Rep K) js H (biD M b ds) Q
section
variable {K : PySem.W.Frag} {js : List Addr} {H : Hp} {M : Mem}
/-- the items of a list, a tuple as they stand -/
theorem items_rep (T : Tie K js H M) {d : D} {v : V} {xs : List D} (r : Rep K js H d v) (h : itemsD M d = some xs) : ∃ a vs, v = .ref a ∧ (SqL K H a vs ∨ SqT K H a vs) ∧ Reps K js H xs vs := by
  unfold itemsD at h
  split at h
  · cases h
    cases r with
    | tup h2 k2 => exact ⟨_, _, rfl, .inr h2, k2⟩
  · cases h
    cases r with
    | frl h2 k2 => exact ⟨_, _, rfl, .inl h2.sq, k2⟩
  · split at h
    · rename_i e1
      cases h
      obtain ⟨p, u1, rfl, j1, h1, o1⟩ := r.refH T e1
      cases o1 with
      | lst k2 => exact ⟨_, _, rfl, .inl (.inl (.inl h1)), k2⟩
    · cases h
  · cases h
theorem list_rep (T : Tie K js H M) {d : D} {v : V} {xs : List D} (r : Rep K js H d v) (h : listD M d = some xs) : ∃ a vs, v = .ref a ∧ SqL K H a vs ∧ Reps K js H xs vs := by
  unfold listD at h
  split at h
  · cases h
    cases r with
    | frl h2 k2 => exact ⟨_, _, rfl, h2.sq, k2⟩
  · split at h
    · rename_i e1
      cases h
      obtain ⟨p, u1, rfl, j1, h1, o1⟩ := r.refH T e1
      cases o1 with
      | lst k2 => exact ⟨_, _, rfl, .inl (.inl h1), k2⟩
    · cases h
  · cases h
theorem bools_of {xs : List D} : ∀ {bs : List Bool}, boolsD xs = some bs → xs = bs.map D.bl := by
  induction xs with
  | nil => intro bs h; cases h; rfl
  | cons x xs ih =>
    intro bs h
    cases x <;> first | (cases h) | skip
    rename_i b
    obtain ⟨cs, h1, h2⟩ := Option.map_eq_some_iff.mp h
    subst h2
    rw [ih h1]
    rfl
theorem ints_of {xs : List D} : ∀ {bs : List Int}, intsD xs = some bs → xs = bs.map D.int := by
  induction xs with
  | nil => intro bs h; cases h; rfl
  | cons x xs ih =>
    intro bs h
    cases x <;> first | (cases h) | skip
    rename_i b
    obtain ⟨cs, h1, h2⟩ := Option.map_eq_some_iff.mp h
    subst h2
    rw [ih h1]
    rfl
theorem strs_of {xs : List D} : ∀ {bs : List Str}, strsD xs = some bs → xs = bs.map D.str := by
  induction xs with
  | nil => intro bs h; cases h; rfl
  | cons x xs ih =>
    intro bs h
    cases x <;> first | (cases h) | skip
    rename_i b
    obtain ⟨cs, h1, h2⟩ := Option.map_eq_some_iff.mp h
    subst h2
    rw [ih h1]
    rfl
end
section
variable {X : Cx}
theorem call_repr (hu : X.A.units + 66 < cLine) (hg : X.A.guards = some []) : CallR X (.builtin "repr") (fun xs H Q => ∃ js M d p, xs = [d] ∧ Tie X.K js H M ∧ (∃ e, Rep X.K js H e d ∧ Py M e p) ∧ p.showable = true ∧ p.depth ≤ 64 ∧ p.shown.length ≤ sizeLine ∧ Q (.str p.shown) H) := by
  intro pins s σ H xs us Q I r h
  obtain ⟨js, M, d, p, rfl, T, ⟨e, re, py⟩, hs, hd, hz, q⟩ := h
  obtain ⟨u, rfl, ru⟩ := vals1 r
  have dp := py.dp T re
  obtain ⟨as, rd⟩ := Dp.reads I p d u dp ru
  have fin : ∀ tk (t : Tok), EP X pins σ Q (.str p.shown t) { s with toks := tk } := fun tk t => ⟨.str _, H, I.tok tk, ⟨_, rfl⟩, q⟩
  cases py with
  | non => cases re; cases ru; simp only [PyData.shown] at fin; exact P.repr_of_none (fin _ _)
  | bl b => cases re; cases ru; simp only [PyData.shown] at fin; exact P.repr_of_bool (fin _ _)
  | int i =>
    cases re
    obtain ⟨t, rfl⟩ := ru
    simp only [PyData.shown] at fin
    exact P.repr_of_int (by simpa [PyData.showable] using hs) (fin _ _)
  | str x =>
    cases re
    obtain ⟨t, rfl⟩ := ru
    simp only [PyData.shown] at fin hz
    exact P.repr_of_str (fin _ _) hz
  | tup h =>
    cases re with
    | tup h2 k2 =>
      cases ru
      exact repr_of_reads' rd hs (PyData.noDict_hsm (Py.noDict (.tup h))) hg (by omega) (fun _ _ z => z) (fun h' t tk kk => ⟨.str _, H, I.kept kk, ⟨_, rfl⟩, q⟩) hz
  | lst e h =>
    cases re with
    | ref h2 =>
      cases ru
      exact repr_of_reads' rd hs (PyData.noDict_hsm (Py.noDict (.lst e h))) hg (by omega) (fun _ _ z => z) (fun h' t tk kk => ⟨.str _, H, I.kept kk, ⟨_, rfl⟩, q⟩) hz
  | frl h =>
    cases re with
    | frl h2 k2 =>
      cases ru
      exact repr_of_reads' rd hs (PyData.noDict_hsm (Py.noDict (.frl h))) hg (by omega) (fun _ _ z => z) (fun h' t tk kk => ⟨.str _, H, I.kept kk, ⟨_, rfl⟩, q⟩) hz
theorem bi_ok (hu : X.A.units + 66 < cLine) (hg : X.A.guards = some []) (hc : X.calm = true) (b : Bi) : CallR X b.val (rBi X.K b) := by
  intro pins s σ H xs us Q I r h
  obtain ⟨js, M, ds, T, rs, g⟩ := h
  unfold biD at g
  split at g
  · -- len
    obtain ⟨n, hn, g⟩ := g.of
    cases rs with
    | cons r1 rs =>
      cases rs
      have q := g.ok .refl T (.int _)
      unfold lenD at hn
      split at hn
      · split at hn
        · cases hn; cases r1
          exact call_len pins s σ H _ us Q I r ⟨_, _, rfl, ⟨by assumption, rfl⟩, q⟩
        · cases hn
      · cases hn
        cases r1 with
        | tup h2 k2 => exact call_len pins s σ H _ us Q I r ⟨_, _, rfl, .inr ⟨_, h2, k2.length⟩, q⟩
      · cases hn
        cases r1 with
        | frl h2 k2 => exact call_len pins s σ H _ us Q I r ⟨_, _, rfl, .inl ⟨_, h2.sq, k2.length⟩, q⟩
      · split at hn
        · rename_i e1
          cases hn
          obtain ⟨p, u1, rfl, j1, h1, o1⟩ := r1.refH T e1
          cases o1 with
          | lst k2 => exact call_len pins s σ H _ us Q I r ⟨_, _, rfl, .inl ⟨_, .inl (.inl h1), k2.length⟩, q⟩
        · rename_i e1
          cases hn
          obtain ⟨p, u1, rfl, j1, h1, o1⟩ := r1.refH T e1
          cases o1 with
          | dct hk _ =>
            have hl := congrArg List.length hk
            rw [List.length_map, List.length_map] at hl
            rw [hl] at q
            exact call_lenD pins s σ H _ us Q I r ⟨p, _, rfl, h1, q⟩
        · cases hn
      · cases hn
  · -- list
    obtain ⟨ys, hy, g⟩ := g.of
    cases rs with
    | cons r1 rs =>
      cases rs
      obtain ⟨a, vs, rfl, h2, k2⟩ := items_rep T r1 hy
      exact call_list_of pins s σ H _ us Q I r ⟨a, vs, rfl, h2, g.new T (.lst k2)⟩
  · -- tuple
    obtain ⟨ys, hy, g⟩ := g.of
    cases rs with
    | cons r1 rs =>
      cases rs
      obtain ⟨a, vs, rfl, h2, k2⟩ := items_rep T r1 hy
      rcases h2 with h2 | h2
      · exact call_tuple_of pins s σ H _ us Q I r ⟨a, vs, rfl, .inl ⟨h2, g.newT T k2⟩⟩
      · exact call_tuple_of pins s σ H _ us Q I r ⟨a, vs, rfl, .inr ⟨h2, g.ok .refl T (.tup h2 k2)⟩⟩
  · -- str
    obtain ⟨c, g⟩ := g.when
    cases rs with
    | cons r1 rs =>
      cases rs; cases r1
      exact call_str_int pins s σ H _ us Q I r ⟨_, rfl, c, g.ok .refl T (.str _)⟩
  · -- str of a truth
    cases rs with
    | cons r1 rs =>
      cases rs; cases r1
      obtain ⟨u, rfl, r1⟩ := vals1 r
      cases r1
      exact PySem.P.str_of_bool ⟨.str _, H, I.tok _, ⟨_, rfl⟩, g.ok .refl T (.str _)⟩
  · -- repr
    obtain ⟨p, hp, g⟩ := g.of
    obtain ⟨⟨c1, c2, c3⟩, g⟩ := g.when
    cases rs with
    | cons r1 rs =>
      cases rs
      exact call_repr hu hg pins s σ H _ us Q I r ⟨js, M, _, p, rfl, T, ⟨_, r1, of_tree hp⟩, c1, c2, c3, g.ok .refl T (.str _)⟩
  · -- ord
    rename_i x
    cases rs with
    | cons r1 rs =>
      cases rs; cases r1
      split at g
      · rename_i c e
        refine call_ord pins s σ H _ us Q I r ⟨x, rfl, ?_, ?_⟩
        · have := congrArg List.length e
          rw [Array.length_toList] at this
          exact this
        · have e2 : x.cps.getD 0 0 = c := by
            rw [Array.getD_eq_getD_getElem?, ← Array.getElem?_toList, e]
            rfl
          rw [e2]
          exact g.ok .refl T (.int _)
      · exact g.bad
  · -- int
    cases rs with
    | cons r1 rs =>
      cases rs; cases r1
      exact call_int1 pins s σ H _ us Q I r (.inl ⟨_, rfl, g.ok .refl T (.int _)⟩)
  · cases rs with
    | cons r1 rs =>
      cases rs; cases r1
      exact call_int1 pins s σ H _ us Q I r (.inr ⟨_, rfl, g.ok .refl T (.int _)⟩)
  · -- all
    obtain ⟨ys, hy, g⟩ := g.of
    obtain ⟨bs, hb, g⟩ := g.of
    cases rs with
    | cons r1 rs =>
      cases rs
      obtain ⟨a, vs, rfl, h2, k2⟩ := list_rep T r1 hy
      rw [bools_of hb] at k2
      rw [k2.bools] at h2
      exact cr_all hc pins s σ H _ us Q I r ⟨a, bs, rfl, h2, g.ok .refl T (.bl _)⟩
  · -- any
    obtain ⟨ys, hy, g⟩ := g.of
    obtain ⟨bs, hb, g⟩ := g.of
    cases rs with
    | cons r1 rs =>
      cases rs
      obtain ⟨a, vs, rfl, h2, k2⟩ := list_rep T r1 hy
      rw [bools_of hb] at k2
      rw [k2.bools] at h2
      exact cr_any hc pins s σ H _ us Q I r ⟨a, bs, rfl, h2, g.ok .refl T (.bl _)⟩
  · -- sum
    obtain ⟨ys, hy, g⟩ := g.of
    obtain ⟨bs, hb, g⟩ := g.of
    cases rs with
    | cons r1 rs =>
      cases rs
      obtain ⟨a, vs, rfl, h2, k2⟩ := list_rep T r1 hy
      rw [ints_of hb] at k2
      rw [k2.ints] at h2
      exact cr_sum hc pins s σ H _ us Q I r ⟨a, bs, rfl, h2, g.ok .refl T (.int _)⟩
  · exact g.bad

/-! ### methods -/
def rMe (K : PySem.W.Frag) (f : Mem → D → List D → RD) : V → List V → Hp → VK → Prop := fun x xs H Q => ∃ js M d ds, Tie K js H M ∧ Rep K js H d x ∧ Reps K js H ds xs ∧ Go K (Rep K) js H (f M d ds) Q
theorem Reps.eraseIdx {K : PySem.W.Frag} {js : List Addr} {H : Hp} : ∀ {xs : List D} {vs : List V} (i : Nat), Reps K js H xs vs → Reps K js H (xs.eraseIdx i) (vs.eraseIdx i)
  | _, _, _, .nil => .nil
  | _, _, 0, .cons _ r => r
  | _, _, i + 1, .cons k r => .cons k (Reps.eraseIdx i r)
theorem me_append : MtR X "list.append" (rMe X.K appendD) := by
  intro pins s σ H x xs v us Q I rx rs h
  obtain ⟨js, M, d, ds, T, r1, r2, g⟩ := h
  unfold appendD at g
  split at g
  · split at g
    · rename_i e1
      obtain ⟨c, g⟩ := g.when
      obtain ⟨p, u1, rfl, j1, h1, o1⟩ := r1.refH T e1
      cases r2 with
      | cons ry r2 =>
        cases r2
        cases o1 with
        | lst k2 =>
          obtain ⟨x1, T1⟩ := T.set j1 (.lst (k2.append (.cons ry .nil)))
          exact mt_append pins s σ H _ _ v us Q I rx rs ⟨p, _, _, rfl, rfl, h1, by rw [← k2.length]; exact c, g.ok x1 T1 .non⟩
    · exact g.bad
  · exact g.bad
theorem me_extend : MtR X "list.extend" (rMe X.K extendD) := by
  intro pins s σ H x xs v us Q I rx rs h
  obtain ⟨js, M, d, ds, T, r1, r2, g⟩ := h
  unfold extendD at g
  split at g
  · split at g
    · rename_i e1 e2
      obtain ⟨c, g⟩ := g.when
      obtain ⟨p, u1, rfl, j1, h1, o1⟩ := r1.refH T e1
      cases r2 with
      | cons ry r2 =>
        cases r2
        obtain ⟨q, u2, rfl, j2, h2, o2⟩ := ry.refH T e2
        cases o1 with
        | lst k1 =>
          cases o2 with
          | lst k2 =>
            obtain ⟨x1, T1⟩ := T.set j1 (.lst (k1.append k2))
            exact mt_extend pins s σ H _ _ v us Q I rx rs ⟨p, q, _, _, rfl, rfl, h1, h2, by rw [← k1.length, ← k2.length]; exact c, g.ok x1 T1 .non⟩
    · exact g.bad
  · exact g.bad
theorem me_pop : MtR X "list.pop" (rMe X.K popD) := by
  intro pins s σ H x xs v us Q I rx rs h
  obtain ⟨js, M, d, ds, T, r1, r2, g⟩ := h
  unfold popD at g
  split at g
  · split at g
    · rename_i e1
      obtain ⟨y, ey, g⟩ := g.of
      obtain ⟨p, u1, rfl, j1, h1, o1⟩ := r1.refH T e1
      cases r2
      cases o1 with
      | lst k1 =>
        obtain ⟨w, hw, rw'⟩ := k1.get ey
        obtain ⟨x1, T1⟩ := T.set j1 (.lst k1.dropLast)
        rw [k1.length] at hw
        exact mt_pop pins s σ H _ _ v us Q I rx rs ⟨p, _, w, rfl, rfl, h1, hw, g.ok x1 T1 (rw'.ext T x1)⟩
    · exact g.bad
  · split at g
    · rename_i e1
      obtain ⟨j, ej, g⟩ := g.of
      obtain ⟨y, ey, g⟩ := g.of
      obtain ⟨p, u1, rfl, j1, h1, o1⟩ := r1.refH T e1
      cases r2 with
      | cons ry r2 =>
        cases r2; cases ry
        cases o1 with
        | @lst _ vs k1 =>
          obtain ⟨w, hw, rw'⟩ := k1.get ey
          obtain ⟨x1, T1⟩ := T.set j1 (.lst (k1.eraseIdx j))
          rw [k1.length] at ej
          obtain ⟨a1, a2, a3, a4⟩ := ixN_seq ej
          obtain ⟨_, _, _, _, hz⟩ := I.lst h1
          have hn := line63
          have hs := sizeLine_eq
          exact mt_popAt pins s σ H _ _ v us Q I rx rs ⟨p, _, _, j, w, rfl, rfl, h1, by omega, by omega, a1, hw, g.ok x1 T1 (rw'.ext T x1)⟩
    · exact g.bad
  · exact g.bad
theorem me_join : MtR X "str.join" (rMe X.K joinD) := by
  intro pins s σ H x xs v us Q I rx rs h
  obtain ⟨js, M, d, ds, T, r1, r2, g⟩ := h
  unfold joinD at g
  split at g
  · obtain ⟨ys, hy, g⟩ := g.of
    obtain ⟨zs, hz, g⟩ := g.of
    obtain ⟨c, g⟩ := g.when
    cases r2 with
    | cons ry r2 =>
      cases r2; cases r1
      obtain ⟨a, vs, rfl, h2, k2⟩ := items_rep T ry hy
      rw [strs_of hz] at k2
      rw [k2.strs] at h2
      exact mt_join pins s σ H _ _ v us Q I rx rs ⟨_, a, zs, rfl, rfl, h2, c, g.ok .refl T (.str _)⟩
  · exact g.bad
theorem me_get (hu : X.A.units + 1 < cLine) : MtR X "dict.get" (rMe X.K getD) := by
  intro pins s σ H x xs v us Q I rx rs h
  obtain ⟨js, M, d, ds, T, r1, r2, g⟩ := h
  unfold getD at g
  split at g
  · split at g
    · rename_i e1
      obtain ⟨k, ek, g⟩ := g.of
      obtain ⟨p, u1, rfl, j1, h1, o1⟩ := r1.refH T e1
      cases r2 with
      | cons ry r2 =>
        cases r2
        cases o1 with
        | dct hk hr =>
          cases (show v = Value.ref p from rx)
          obtain ⟨u, rfl, ru⟩ := vals1 rs
          rw [key_rep ry ek] at ru
          refine d_get1 hu I (.k h1) ru fun w' s' I' r' => ⟨_, H, I', r', ?_⟩
          refine g.ok .refl T ?_
          rcases look_rep (k := k) hk hr with ⟨z1, z2⟩ | ⟨d', v', z1, z2, z3⟩
          · rw [z1, z2]; exact .non
          · rw [z1, z2]; exact z3
    · exact g.bad
  · split at g
    · rename_i e1
      obtain ⟨k, ek, g⟩ := g.of
      obtain ⟨p, u1, rfl, j1, h1, o1⟩ := r1.refH T e1
      cases r2 with
      | cons ry r2 =>
        cases r2 with
        | cons rd r2 =>
          cases r2
          cases o1 with
          | dct hk hr =>
            cases (show v = Value.ref p from rx)
            obtain ⟨u, u', rfl, ru, ru'⟩ := vals2 rs
            rw [key_rep ry ek] at ru
            refine d_get2 hu I (.k h1) ru ru' fun w' s' I' r' => ⟨_, H, I', r', ?_⟩
            refine g.ok .refl T ?_
            rcases look_rep (k := k) hk hr with ⟨z1, z2⟩ | ⟨d', v', z1, z2, z3⟩
            · rw [z1, z2]; exact rd
            · rw [z1, z2]; exact z3
    · exact g.bad
  · exact g.bad
end
end Cp

/-! The compact syntax against the row's own. -/
namespace Cp
open PySem L2

def visB (c : Scope) (x : Str) : Bool := match c.names.lookup x with | some .local => true | some .cell => true | some .free => true | _ => false
def glbB (c : Scope) (x : Str) : Bool := match c.names.lookup x with | some .globalImplicit => true | _ => false
/-- a name that is stored here -/
def stoB (c : Scope) (f : Str → Bool) (x : Str) : Bool := match c.names.lookup x with | some .local => true | some .cell => f x | _ => false
def okN (x : Str) : Bool := decide (x ≠ "__debug__") && decide (x ≠ "__classdict__") && decide (x ≠ "__name__")
def noSl : Expr → Bool | .Slice .. => false | _ => true
def noStar : Expr → Bool | .Starred .. => false | _ => true
def noComp : Expr → Bool | .ListComp .. => false | .SetComp .. => false | .DictComp .. => false | _ => true
def noSet : Expr → Bool | .Set .. => false | _ => true
def noBase : Expr → Bool | .Call (.Name _ _) [] [] _ => false | _ => true
def noTst : Expr → Bool | .UnaryOp .Not _ _ => false | .BoolOp .. => false | .IfExp .. => false | .Compare .. => false | _ => true
def isCmp : Expr → Bool | .Compare .. => true | _ => false
def noTup : Expr → Bool | .Tuple .. => false | _ => true
def litM : Lit → Const → Bool
  | .non, .none => true
  | .bl a, .bool b => a == b
  | .int a, .int b => a == b
  | .str a, .str b => decide (a = b)
  | _, _ => false
def namesM (N : List Str) (c : Scope) (f : Str → Bool) : List Nat → List Expr → Bool
  | [], [] => true
  | i :: is, .Name x _ :: es => decide (N[i]? = some x) && stoB c f x && namesM N c f is es
  | _, _ => false
def Tg.names : Tg → List Nat
  | .nm i => [i]
  | .tp is => is
  | .sb _ _ => []
section
variable (G : Mdl) (N : List Str)
mutual
def mE (c : Scope) (f : Str → Bool) : E → Expr → Bool
  | .var i, .Name x _ => decide (N[i]? = some x) && visB c x && okN x
  | .lit l, .Constant k _ _ => litM l k
  | .glob g, .Name x _ => decide ((G.con[g]?).map (·.1) = some x) && glbB c x && okN x
  | .bin o a b, .BinOp l op r _ => decide (o.py = op) && mE c f a l && mE c f b r
  | .neg a, .UnaryOp .USub x _ => mE c f a x
  | .not a, .UnaryOp .Not x _ => mE c f a x
  | .bool k es, .BoolOp op vs _ => decide (op = if k then .And else .Or) && !vs.isEmpty && mEs c f es vs
  | .cmp k a b, .Compare l [op] [r] _ => decide (k.py = op) && noSet r && mE c f a l && mE c f b r
  | .chain k1 k2 a b d, .Compare l [o1, o2] [r1, r2] _ => decide (k1.py = o1) && decide (k2.py = o2) && noSet r1 && noSet r2 && mE c f a l && mE c f b r1 && mE c f d r2
  | .ite t a b, .IfExp x y z _ => mT c f t x && mE c f a y && mE c f b z
  | .tup es, .Tuple xs _ _ => mEs c f es xs
  | .lst es, .List xs _ => mEs c f es xs
  | .dic ps, .Dict ks vs _ => !ks.isEmpty && decide (ks.length = vs.length) && decide (ks.length ≤ 15) && mPs c f ps ks vs
  | .idx a b, .Subscript x y _ => noSl y && mE c f a x && mE c f b y
  | .slc a lo hi, .Subscript x (.Slice l h none _) _ => mE c f a x && mO c f lo l && mO c f hi h
  | .rev a, .Subscript x (.Slice none none (some (.UnaryOp .USub (.Constant (.int k) _ _) _)) _) _ => decide (k = 1) && mE c f a x
  | .call g es, .Call (.Name x _) xs [] _ => decide ((G.fns[g]?).map (·.name) = some x) && glbB c x && okN x && mEs c f es xs
  | .bi b es, .Call (.Name x _) xs [] _ => decide (b.nm = x) && glbB c x && !xs.isEmpty && mEs c f es xs
  | .isi a t, .Call (.Name x _) [y, .Name z _] [] _ => decide (x = "isinstance") && glbB c x && glbB c z && decide (z = Str.ofString t) && ["int", "bool", "str", "tuple", "list", "dict"].contains t && noStar y && mE c f a y
  | .meth m o es, .Call (.Attribute x nm apos) xs [] cpos => decide (m.nm = nm) && decide (apos.endLine = cpos.line) && noBase x && decide (xs.length < 29) && mE c f o x && mEs c f es xs
  | .lc elt t it cond own, .ListComp y [⟨tg, iter, ifs, k⟩] scope _ => decide (k = 0) && noSet iter && t.names.all own.contains && blkC N c scope (own.map fun i => (N.getD i Str.empty, i)) && mI c f it iter &&
      mG (relS scope c) (fun x => scope.names.lookup x == some .cell) t tg && mIfs (relS scope c) (fun x => scope.names.lookup x == some .cell) cond ifs && mE (relS scope c) (fun x => scope.names.lookup x == some .cell) elt y
  | .trg a, .Call (.Name x _) [.Call (.Name y _) [z] [] _] [] _ => decide (x = "tuple") && decide (y = "range") && glbB c x && glbB c y && noStar z && mE c f a z
  | .lrg a, .Call (.Name x _) [.Call (.Name y _) [z] [] _] [] _ => decide (x = "list") && decide (y = "range") && glbB c x && glbB c y && noStar z && mE c f a z
  | _, _ => false
def mEs (c : Scope) (f : Str → Bool) : Es → List Expr → Bool
  | .nil, [] => true
  | .cons e es, x :: xs => noStar x && mE c f e x && mEs c f es xs
  | _, _ => false
def mPs (c : Scope) (f : Str → Bool) : Ps → List (Option Expr) → List Expr → Bool
  | .nil, [], [] => true
  | .cons k v ps, some x :: xs, y :: ys => mE c f k x && mE c f v y && mPs c f ps xs ys
  | _, _, _ => false
def mT (c : Scope) (f : Str → Bool) : T → Expr → Bool
  | .not t, .UnaryOp .Not x _ => mT c f t x
  | .bool k ts, .BoolOp op vs _ => decide (op = if k then .And else .Or) && !vs.isEmpty && mTs c f ts vs
  | .val e, x => (noTst x || isCmp x) && mE c f e x
  | _, _ => false
def mTs (c : Scope) (f : Str → Bool) : Ts → List Expr → Bool
  | .nil, [] => true
  | .cons t ts, x :: xs => mT c f t x && mTs c f ts xs
  | _, _ => false
/-- the tests of a comprehension -/
def mIfs (c : Scope) (f : Str → Bool) : Ts → List Expr → Bool
  | .nil, [] => true
  | .cons t ts, x :: xs => mT c f t x && mIfs c f ts xs
  | _, _ => false
def mO (c : Scope) (f : Str → Bool) : O → Option Expr → Bool
  | .no, none => true
  | .at e, some x => mE c f e x
  | _, _ => false
def mI (c : Scope) (f : Str → Bool) : It → Expr → Bool
  | .ex e, x => mE c f e x
  | .rg1 a, .Call (.Name y _) [z] [] _ => decide (y = "range") && glbB c y && noStar z && mE c f a z
  | .rg2 a b, .Call (.Name y _) [z, z2] [] _ => decide (y = "range") && glbB c y && noStar z && noStar z2 && mE c f a z && mE c f b z2
  | _, _ => false
def mG (c : Scope) (f : Str → Bool) : Tg → Expr → Bool
  | .nm i, .Name x _ => decide (N[i]? = some x) && stoB c f x
  | .tp is, .Tuple es _ _ => namesM N c f is es
  | .sb o i, .Subscript x y _ => noSl y && mE c f o x && mE c f i y
  | _, _ => false
end
mutual
def mS (c : Scope) (f : Str → Bool) : S → Stmt → Bool
  | .asg (.nm i) e, .Assign [.Name x _] v _ => noComp v && decide (N[i]? = some x) && stoB c f x && mE G N c f e v
  | .asg t e, .Assign [tg] v _ => noComp v && (noTup tg || noTup v) && mG G N c f t tg && mE G N c f e v
  | .asgc i e, .Assign [.Name y py] (.ListComp elt gs scope pos) _ => decide (N[i]? = some y) && decide (c.names.lookup y = some .local) && decide (py.line = pos.line) &&
      !(scope.names.any fun (n, k) => n == y && (k == .local || k == .cell)) && mE G N c f e (.ListComp elt gs scope pos)
  | .par [i, j] es, .Assign [.Tuple [.Name x px, .Name y py] _ _] (.Tuple [a, b] _ _) _ => decide (N[i]? = some x) && decide (N[j]? = some y) && decide (i ≠ j) && decide (c.names.lookup x = some .local) && decide (c.names.lookup y = some .local) &&
      decide (px.line = py.line) && noStar a && noStar b && !(foldedForSure 8 a && foldedForSure 8 b) && !(constantsAlone 8 a && constantsAlone 8 b) && mEs G N c f es [a, b]
  | .par [i, j, k] es, .Assign [.Tuple [.Name x px, .Name y py, .Name z pz] _ _] (.Tuple [a, b, d] _ _) _ => decide (N[i]? = some x) && decide (N[j]? = some y) && decide (N[k]? = some z) && decide (i ≠ j) && decide (i ≠ k) && decide (j ≠ k) &&
      decide (c.names.lookup x = some .local) && decide (c.names.lookup y = some .local) && decide (c.names.lookup z = some .local) && decide (px.line = py.line) && decide (px.line = pz.line) && noStar a && noStar b && noStar d &&
      !(foldedForSure 8 a && foldedForSure 8 b && foldedForSure 8 d) && !(constantsAlone 8 a && constantsAlone 8 b && constantsAlone 8 d) && mEs G N c f es [a, b, d]
  | .expr e, .Expr v _ => noComp v && mE G N c f e v
  | .iff t a b, .If x y z _ => mT G N c f t x && mSs c f a y && mSs c f b z
  | .whl t a, .While x y [] _ => mT G N c f t x && mSs c f a y
  | .fr t it b, .For tg iter y [] _ => noSet iter && mG G N c f t tg && mI G N c f it iter && mSs c f b y
  | .ret e, .Return (some v) _ => mE G N c f e v
  | .ret0, .Return none _ => true
  | .brk, .Break _ => true
  | .cont, .Continue _ => true
  | .pass, .Pass _ => true
  | .doc, .Expr (.Constant (.str _) _ _) _ => true
  | _, _ => false
def mSs (c : Scope) (f : Str → Bool) : Ss → List Stmt → Bool
  | .nil, [] => true
  | .cons s ss, x :: xs => mS c f s x && mSs c f ss xs
  | _, _ => false
end
end
end Cp

/-! Contexts, calls, expressions. -/
namespace Cp
open PySem L2

/-! ### small facts of the syntax -/
theorem star1 {e : Expr} (h : noStar e = true) (es : List Expr) (env : Env) : starEach (e :: es) env = (false, eval e env) :: starEach es env := by
  cases e <;> first | rfl | exact absurd h Bool.false_ne_true
theorem plainIx {e : Expr} (h : noSl e = true) : PlainIx e := by
  intro o i
  cases e <;> first | rfl | exact absurd h Bool.false_ne_true
theorem noSet1 {e : Expr} (h : noSet e = true) (env : Env) (x : Value) : foldedSetIterable e env x = pure x := by
  cases e <;> first | rfl | exact absurd h Bool.false_ne_true
theorem noMark {e : Expr} (h : noSet e = true) (op : CmpOp) : behindInMarks op e = false := by
  cases e <;> first | rfl | exact absurd h Bool.false_ne_true
theorem base1 {o : Expr} (h : noBase o = true) (m : Str) (env : Env) : attributeBase o m env (eval o env) = eval o env := by
  cases o with
  | Call f as kws p =>
    cases f <;> first | rfl | skip
    cases as <;> first | rfl | skip
    cases kws <;> first | rfl | exact absurd h Bool.false_ne_true
  | _ => rfl
theorem tst1 {e : Expr} (h : noTst e = true) (env : Env) (w : Sem Value) : isTrue e env w = (do let v ← w; standAt e.pos; holding [v] (truthy v)) := by
  cases e with
  | UnaryOp op x p =>
    cases op <;> first | rfl | exact absurd h Bool.false_ne_true
  | _ => first | rfl | exact absurd h Bool.false_ne_true
theorem vis_of {c : Scope} {x : Str} (h : visB c x = true) : Vis c x := by
  unfold visB at h
  split at h <;> first | contradiction | skip
  · exact .inl (by assumption)
  · exact .inr (.inl (by assumption))
  · exact .inr (.inr (by assumption))
theorem glb_of {c : Scope} {x : Str} (h : glbB c x = true) : c.names.lookup x = some .globalImplicit := by
  unfold glbB at h
  split at h <;> first | contradiction | assumption
theorem sto_of {c : Scope} {f : Str → Bool} {x : Str} (h : stoB c f x = true) : Loc c x ∧ (f x = true ∨ c.names.lookup x = some .local) := by
  unfold stoB at h
  split at h <;> first | contradiction | skip
  · exact ⟨.inl (by assumption), .inr (by assumption)⟩
  · exact ⟨.inr (by assumption), .inl h⟩
theorem ok_of {x : Str} (h : okN x = true) : (x == ("__debug__" : Str)) = false ∧ (x == ("__classdict__" : Str)) = false ∧ x ≠ "__name__" := by
  unfold okN at h
  simp only [Bool.and_eq_true, decide_eq_true_eq] at h
  exact ⟨beq_eq_false_iff_ne.mpr h.1.1, beq_eq_false_iff_ne.mpr h.1.2, h.2⟩

/-! ### promises where nothing is being shown -/
structure FnG (P : Program) (w : World) (K : PySem.W.Frag) (mg : Str → Option Value) (base : Heap) (k : Nat) (f : Addr) (fd : FuncData) (ps : List Str) (sp : Sp) : Prop where
  len : ∀ vs H Q E, sp vs H Q E → vs.length = ps.length
  run : ∀ (A : Around) (outer : List Env) (s : Shared) (H : Hp) (args : Args) (us : List Value) (vs : List V) (Q : VK) (E : XK), A.guards = some [] → Room k A → Env0 P w K mg base A outer s H → BindsTo s fd args (ps.zip us) → Vals vs us → sp vs H Q E →
    codeAny (model P w) A (.call (.ref f) args) (CR CX0 outer P w H s Q E) s
theorem run_fnG {X : Cx} {k : Nat} {f : Addr} {fd : FuncData} {ps : List Str} {sp : Sp} {pins : List (Addr × Obj)} {σ : St} {H : Hp} {s : Shared} {Q : VK} {us : List Value} {vs : List V}
    (F : FnG X.prog X.w X.K X.mg X.base k f fd ps sp) (hg : X.A.guards = some []) (hr : Room k X.A) (hb : Binds X.K fd ps []) (I : Inv X pins σ H s) (r : Vals vs us) (h : sp vs H Q E0) :
    wpAny (model X.prog X.w) X.A (call (.ref f) us) (EP X pins σ Q) X.xe s := by
  have bd := hb s us I.kIn (by rw [List.append_nil, ← r.length]; exact F.len _ _ _ _ h)
  rw [List.append_nil] at bd
  refine wpAny_call (codeAny_mono (F.run X.A X.stack s H ⟨us, []⟩ us vs Q E0 hg hr I.env0 bd r h) fun res s' hq => ?_)
  cases res with
  | error e => exact False.elim hq
  | ok fl =>
    cases fl with
    | ret u => exact I.after hq
    | next => exact False.elim hq
    | brk => exact False.elim hq
    | cont => exact False.elim hq
/-- f(..), f a def of the module -/
theorem pe_callG {X : Cx} {k : Nat} {f : Addr} {fd : FuncData} {ps : List Str} {sp : Sp} {x : Str} {p pos : Pos} {e : Expr} {r : List Expr} {t : TA}
    (F : FnG X.prog X.w X.K X.mg X.base k f fd ps sp) (hgd : X.A.guards = some []) (hr : Room k X.A) (hg : Gl X x) (hm : X.mg x = some (.ref f)) (hk : PySem.W.keepIn X.K (.ref f) = true) (hb : Binds X.K fd ps [])
    (ha : PA X (e :: r) t) (hd : (x == ("__debug__" : Str)) = false) (h1 : starEach (e :: r) X.env = (false, eval e X.env) :: starEach r X.env) (h2 : (backTo pos (starEach r X.env)).any (·.1) = false) :
    PE X (.Call (.Name x p) (e :: r) [] pos) (fun σ H Q => t σ H fun vs H1 => sp vs H1 Q E0) := by
  refine ⟨fun pins s σ H Q I h => wpAny_Call_Name_kw (ld_glob I hg hm ?_ hd)⟩
  exact PySem.W.callWith_K (h₀ := X.base) I.ok.mod.kin hk (thn (ha.run pos pins s σ H _ I h) fun us s1 ⟨vs, H1, I1, rv, q⟩ => ⟨I1.kIn, run_fnG F hgd hr hb I1 rv q⟩) h1 h2
theorem pe_callG0 {X : Cx} {k : Nat} {f : Addr} {fd : FuncData} {ps : List Str} {sp : Sp} {x : Str} {p pos : Pos}
    (F : FnG X.prog X.w X.K X.mg X.base k f fd ps sp) (hgd : X.A.guards = some []) (hr : Room k X.A) (hg : Gl X x) (hm : X.mg x = some (.ref f)) (hk : PySem.W.keepIn X.K (.ref f) = true) (hb : Binds X.K fd ps [])
    (hd : (x == ("__debug__" : Str)) = false) : PE X (.Call (.Name x p) [] [] pos) (fun _ H Q => sp [] H Q E0) := by
  refine ⟨fun pins s σ H Q I h => wpAny_Call_Name_kw (ld_glob I hg hm ?_ hd)⟩
  exact PySem.W.callWith_K0 I.kIn hk (run_fnG (us := []) F hgd hr hb I .nil h)

/-! ### what the module gives, a context -/
/-- a def's promise: what its run tells -/
def spG (K : PySem.W.Frag) (G : Mdl) (n : Nat) (f : Nat) : Sp := fun vs H Q _ => ∃ js M ds, Tie K js H M ∧ Reps K js H ds vs ∧ (∀ F, G.fns[f]? = some F → ds.length = F.ps.length) ∧ Go K (Rep K) js H (callF G n f ds M) Q
/-- the names that the module must leave to the builtins -/
def bltNames : List Str := ["len", "list", "tuple", "str", "repr", "ord", "int", "all", "any", "sum", "sorted", "max", "min", "dict", "set", "isinstance", "range", "bool"]
structure MdlOk (G : Mdl) (n : Nat) (P : Program) (w : World) (K : PySem.W.Frag) (mg : Str → Option Value) (base : Heap) : Prop where
  blt : ∀ x ∈ bltNames, mg x = none
  con : ∀ (g : Nat) (p : Str × D), G.con[g]? = some p → ∃ u v, mg p.1 = some u ∧ RelV v u ∧ ∀ js H, Rep K js H p.2 v
  fn : ∀ (f : Nat) (F : Fn), G.fns[f]? = some F → ∃ a fd, mg F.name = some (.ref a) ∧ PySem.W.keepIn K (.ref a) = true ∧ Binds K fd F.ps [] ∧ FnG P w K mg base n a fd F.ps (spG K G n f)
structure Okx (G : Mdl) (N : List Str) (c : Scope) (f : Str → Bool) (n : Nat) (X : Cx) : Prop where
  hN : X.N = N
  nd : N.Nodup
  sc : X.env.scope = c
  fn : X.fn = f
  calm : X.calm = true
  xe : X.xe = fun _ _ => False
  room : Room n X.A
  gd : X.A.guards = some []
  md : MdlOk G n X.prog X.w X.K X.mg X.base
section
variable {G : Mdl} {N : List Str} {c : Scope} {f : Str → Bool} {n : Nat} {X : Cx}
theorem Okx.u66 (k : Okx G N c f n X) : X.A.units + 66 < cLine := by have := k.room.un; omega
theorem Okx.gl (k : Okx G N c f n X) {x : Str} (h : glbB c x = true) : L2.Gl X x := by
  show X.env.scope.names.lookup x = _
  rw [k.sc]; exact glb_of h
theorem Okx.vis (k : Okx G N c f n X) {x : Str} (h : visB c x = true) : Vis X.env.scope x := by rw [k.sc]; exact vis_of h
theorem Okx.sto (k : Okx G N c f n X) {x : Str} (h : stoB c f x = true) : Loc X.env.scope x ∧ (X.fn x = true ∨ X.env.scope.names.lookup x = some .local) := by rw [k.sc, k.fn]; exact sto_of h
/-- a comprehension's block -/
theorem Okx.blk (k : Okx G N c f n X) (scope : Scope) (s : Shared) (H : Hp) (C : Addr) (cl : List (Str × Addr)) (fp : List Addr) :
    Okx G N (relS scope c) (fun x => scope.names.lookup x == some .cell) n (X.blk s H scope (compEnvC scope cl C X.env) fp) := by
  refine ⟨k.hN, k.nd, ?_, rfl, k.calm, rfl, k.room, k.gd, k.md⟩
  show relS scope X.env.scope = _
  rw [k.sc]
end
end Cp

/-! Expressions: what the compact run tells, the model's run gives. -/
namespace Cp
open PySem L2

/-! ### what is walked -/
def IsSrc (K : PySem.W.Frag) (js : List Addr) (H : Hp) (c : Src) (J : L2.It) : Prop := ∀ js' H' M', Ext js H js' H' → Tie K js' H' M' → ∀ i,
  (c.at_ M' i = some none → J.stop i H') ∧ ∀ d, c.at_ M' i = some (some d) → J.go i H' ∧ ∀ x H2, J.yld i H' x H2 → ∃ js2, Ext js' H' js2 H2 ∧ Tie K js2 H2 M' ∧ Rep K js2 H2 d x
def tI (K : PySem.W.Frag) (r : Ev → Mem → R (Src × Mem)) : TI := fun t H Q => ∃ js M s, Tie K js H M ∧ RepS K js H s t ∧ Go K (IsSrc K) js H (r s M) Q
def gG (K : PySem.W.Frag) (r : D → Ev → Mem → R (Ev × Mem)) : TG := fun v t H Q => ∃ js M s d, Tie K js H M ∧ RepS K js H s t ∧ Rep K js H d v ∧ Go K (RepS K) js H (r d s M) Q
theorem pi_weak {X : Cx} {tg e : Expr} {t t' : TI} (h : PI X tg e t) (w : ∀ s H Q, t' s H Q → t s H Q) : PI X tg e t' := ⟨fun pins s σ H Q I q => h.run pins s σ H Q I (w _ _ _ q)⟩
theorem pg_weak {X : Cx} {e : Expr} {t t' : TG} (h : PG X e t) (w : ∀ v s H Q, t' v s H Q → t v s H Q) : PG X e t' := ⟨fun pins s σ H v u Q I r q => h.run pins s σ H v u Q I r (w _ _ _ _ q)⟩
/-- a tuple, a list, a text -/
theorem pi_any {X : Cx} {tg e : Expr} {te : TE} (he : PE X e te) : PI X tg e (fun t H R => te t H fun x H1 => (∃ a xs, x = .ref a ∧ SqL X.K H1 a xs ∧ R (Itl X.K a) H1) ∨ (∃ a xs, x = .ref a ∧ SqT X.K H1 a xs ∧ R (Itt X.K a) H1) ∨
    ∃ z, x = .str z ∧ R (Its z) H1) := by
  refine ⟨fun pins s σ H R I h => thn (he.run pins s σ H _ I h) fun v s1 ⟨x, H1, I1, r1, q1⟩ => ?_⟩
  rcases q1 with ⟨a, xs, ex, hq, q⟩ | ⟨a, xs, ex, hq, q⟩ | ⟨z, ex, q⟩
  · subst ex
    cases r1
    obtain ⟨its, rv, pl, _⟩ := I1.list hq
    exact wpAny_pyIter_list pl.isList (pi_one (tk := s1.toks) I1 _ (turn_list a _) ⟨_, Heap.get?_push_size _ rfl, rfl, rfl⟩ q)
  · subst ex
    cases r1
    obtain ⟨its, rv, pl, _⟩ := I1.tuple hq
    exact wpAny_pyIter_tuple (show s1.heap.IsTuple a its.toArray from pl) (pi_one (tk := s1.toks) I1 _ (turn_tuple a _) ⟨_, Heap.get?_push_size _ rfl, rfl, rfl⟩ q)
  · subst ex
    obtain ⟨t, rfl⟩ := r1
    cases ha : z.cps.all (· < 128)
    · exact wpAny_pyIter_wide ha (pi_one (tk := s1.toks) I1 _ (turn_str _ z t "str_iterator" (.inr rfl)) ⟨_, Heap.get?_push_size _ rfl, rfl, rfl⟩ q)
    · exact wpAny_pyIter_ascii ha (pi_one (tk := s1.toks) I1 _ (turn_str _ z t "str_ascii_iterator" (.inl rfl)) ⟨_, Heap.get?_push_size _ rfl, rfl, rfl⟩ q)
section
variable {K : PySem.W.Frag} {js js' : List Addr} {H H' : Hp} {M M' : Mem}
theorem src_tup (T : Tie K js H M) {a : Addr} {xs : List D} {vs : List V} (h : SqT K H a vs) (r : Reps K js H xs vs) : IsSrc K js H (.its xs) (Itt K a) := by
  intro js' H' M' x1 T1 i
  have h1 := x1.sqt T h
  have r1 := r.ext T x1
  refine ⟨fun e => ⟨vs, h1, ?_⟩, fun d e => ?_⟩
  · have e' : xs[i]? = none := Option.some.inj e
    rw [← r.length]
    exact List.getElem?_eq_none_iff.mp e'
  · have e' : xs[i]? = some d := Option.some.inj e
    obtain ⟨v, hv, rv⟩ := r1.get e'
    refine ⟨⟨vs, v, h1, hv⟩, fun x H2 y => ?_⟩
    obtain ⟨rfl, y⟩ := y
    have := y vs h1
    rw [hv] at this
    cases this
    exact ⟨js', .refl, T1, rv⟩
theorem src_frz (T : Tie K js H M) {a : Addr} {xs : List D} {vs : List V} (h : FrzL K H a vs) (r : Reps K js H xs vs) : IsSrc K js H (.its xs) (Itl K a) := by
  intro js' H' M' x1 T1 i
  have h1 := (x1.frz T h).sq
  have r1 := r.ext T x1
  refine ⟨fun e => ⟨vs, h1, ?_⟩, fun d e => ?_⟩
  · have e' : xs[i]? = none := Option.some.inj e
    rw [← r.length]
    exact List.getElem?_eq_none_iff.mp e'
  · have e' : xs[i]? = some d := Option.some.inj e
    obtain ⟨v, hv, rv⟩ := r1.get e'
    refine ⟨⟨vs, v, h1, hv⟩, fun x H2 y => ?_⟩
    obtain ⟨rfl, y⟩ := y
    have := y vs h1
    rw [hv] at this
    cases this
    exact ⟨js', .refl, T1, rv⟩
theorem src_live {a : Addr} {n : Nat} (h : js[n]? = some a) : IsSrc K js H (.live n) (Itl K a) := by
  intro js' H' M' x1 T1 i
  have key : ∀ o, (Src.live n).at_ M' i = some o → ∃ xs vs, SqL K H' a vs ∧ Reps K js' H' xs vs ∧ xs[i]? = o := by
    intro o e
    have e : (match M'[n]? with | some (MO.lst xs) => some xs[i]? | _ => none) = some o := e
    cases e1 : M'[n]? with
    | none => rw [e1] at e; cases e
    | some u =>
      rw [e1] at e
      obtain ⟨b, u', e2, e3, e4⟩ := T1.at_ _ _ e1
      rw [x1.ix h] at e2
      cases e2
      cases e4 with
      | lst r => exact ⟨_, _, .inl (.inl e3), r, Option.some.inj e⟩
      | dct _ _ => cases e
  refine ⟨fun e => ?_, fun d e => ?_⟩
  · obtain ⟨xs, vs, h1, r1, e'⟩ := key none e
    refine ⟨vs, h1, ?_⟩
    rw [← r1.length]
    exact List.getElem?_eq_none_iff.mp e'
  · obtain ⟨xs, vs, h1, r1, e'⟩ := key (some d) e
    obtain ⟨v, hv, rv⟩ := r1.get e'
    refine ⟨⟨vs, v, h1, hv⟩, fun x H2 y => ?_⟩
    obtain ⟨rfl, y⟩ := y
    have := y vs h1
    rw [hv] at this
    cases this
    exact ⟨js', .refl, T1, rv⟩
theorem src_str (z : Str) : IsSrc K js H (.its (z.cps.toList.map fun c => .str ⟨#[c]⟩)) (Its z) := by
  intro js' H' M' x1 T1 i
  refine ⟨fun e => ?_, fun d e => ?_⟩
  · have e' : (z.cps.toList.map fun c => D.str ⟨#[c]⟩)[i]? = none := Option.some.inj e
    have := List.getElem?_eq_none_iff.mp e'
    rw [List.length_map, Array.length_toList] at this
    exact this
  · have e' : (z.cps.toList.map fun c => D.str ⟨#[c]⟩)[i]? = some d := Option.some.inj e
    rw [List.getElem?_map] at e'
    obtain ⟨c, hc, rfl⟩ := Option.map_eq_some_iff.mp e'
    rw [Array.getElem?_toList] at hc
    refine ⟨(Array.getElem?_eq_some_iff.mp hc).1, fun x H2 y => ?_⟩
    obtain ⟨rfl, c', hc', rfl⟩ := y
    rw [hc] at hc'
    cases hc'
    exact ⟨js', .refl, T1, .str _⟩
theorem src_rng (lo hi : Int) : IsSrc K js H (.its (rngD lo hi)) (Itr lo (hi - lo).toNat) := by
  intro js' H' M' x1 T1 i
  refine ⟨fun e => ?_, fun d e => ?_⟩
  · have e' : (rngD lo hi)[i]? = none := Option.some.inj e
    have := List.getElem?_eq_none_iff.mp e'
    unfold rngD at this
    rw [List.length_map, List.length_range] at this
    exact this
  · have e' : (rngD lo hi)[i]? = some d := Option.some.inj e
    unfold rngD at e'
    rw [List.getElem?_map] at e'
    obtain ⟨c, hc, rfl⟩ := Option.map_eq_some_iff.mp e'
    obtain ⟨h1, h2⟩ := List.getElem?_eq_some_iff.mp hc
    rw [List.getElem_range] at h2
    rw [List.length_range] at h1
    subst h2
    refine ⟨h1, fun x H2 y => ?_⟩
    obtain ⟨rfl, rfl⟩ := y
    exact ⟨js', .refl, T1, .int _⟩
end

/-! ### comprehensions -/
theorem bind_ok {α β : Type} {r : R α} {k : α → R β} {z : β} (h : r.bind k = .ok z) : ∃ w, r = .ok w ∧ k w = .ok z := by
  cases r with
  | ok w => exact ⟨w, rfl, h⟩
  | exn x N => cases h
  | bad => cases h
theorem of_ok {α β : Type} {o : Option α} {k : α → R β} {z : β} (h : R.of o k = .ok z) : ∃ w, o = some w ∧ k w = .ok z := by
  cases o with
  | some w => exact ⟨w, rfl, h⟩
  | none => cases h
theorem when_ok {β : Type} {c : Prop} [Decidable c] {k : R β} {z : β} (h : R.when c k = .ok z) : c ∧ k = .ok z := by
  unfold R.when at h
  split at h
  · rename_i hc; exact ⟨hc, h⟩
  · cases h
theorem wipe_at (s : St) : ∀ (vs : List Nat) (i : Nat), (L2.wipe s vs)[i]? = if i ∈ vs then (s[i]?).map (fun _ => none) else s[i]?
  | [], i => by rw [if_neg (by simp)]; rfl
  | v :: vs, i => by
    show ((L2.wipe s vs).set v none)[i]? = _
    by_cases h : v = i
    · subst h
      rw [if_pos (by simp), List.getElem?_set, if_pos rfl]
      have hl : (L2.wipe s vs).length = s.length := wipe_length _ _
      by_cases q : v < s.length
      · rw [if_pos (by rw [hl]; exact q), List.getElem?_eq_getElem q]; rfl
      · rw [if_neg (by rw [hl]; exact q), List.getElem?_eq_none (by omega)]; rfl
    · rw [List.getElem?_set_ne h, wipe_at s vs i]
      have : i ∈ v :: vs ↔ i ∈ vs := by rw [List.mem_cons]; exact ⟨fun z => z.elim (fun z => absurd z.symm h) id, .inr⟩
      by_cases q : i ∈ vs
      · rw [if_pos q, if_pos (this.mpr q)]
      · rw [if_neg q, if_neg fun z => q (this.mp z)]
theorem wipe_wipe (s : St) (vs : List Nat) : L2.wipe (L2.wipe s vs) vs = L2.wipe s vs := by
  refine List.ext_getElem? fun i => ?_
  rw [wipe_at, wipe_at]
  by_cases q : i ∈ vs
  · rw [if_pos q, if_pos q, Option.map_map]; rfl
  · rw [if_neg q, if_neg q]
theorem wipe_set (s : St) (vs : List Nat) {i : Nat} (h : i ∈ vs) (x : Option V) : L2.wipe (s.set i x) vs = L2.wipe s vs := by
  refine List.ext_getElem? fun j => ?_
  rw [wipe_at, wipe_at]
  by_cases e : i = j
  · subst e
    rw [if_pos h, if_pos h, List.getElem?_set, if_pos rfl]
    by_cases q : i < s.length
    · rw [if_pos q, List.getElem?_eq_getElem q]; rfl
    · rw [if_neg q, List.getElem?_eq_none (by omega)]
  · rw [List.getElem?_set_ne e]
theorem lc_run {K : PySem.W.Frag} {set : D → Ev → Mem → R (Ev × Mem)} {cond : Ev → Mem → R (Bool × Mem)} {elt : Ev → Mem → RD} {ri : Ev → Mem → R (Src × Mem)} {own : List Nat} {t : St} {H : Hp} {Q : VK}
    (h : tE K (fun s M => (ri s M).bind fun p => (compX p.1 set cond elt (wipeE s own) wf 0 p.2 []).bind fun q => newM q.2 (.lst q.1)) t H Q) :
    tLc (tI K ri) (fun v t H Q => gG K set v t H fun t2 H2 => L2.wipe t2 own = L2.wipe t own → Q t2 H2) (tT K cond) (tE K elt) own t H Q := by
  obtain ⟨js, M, s, T, S, g⟩ := h
  refine ⟨js, M, s, T, S, g.bind.mono ?_⟩
  rintro J H1 ⟨js1, M1, c, T1, x1, src, d, Mend, e1, fin⟩
  have S1 := S.ext T x1
  intro D hD
  refine ⟨fun i m H' => ∃ js' M' acc vs, Beside K js1 H1 D js' H' M' (.lst vs) ∧ Reps K js' H' acc vs ∧ (compX c set cond elt (wipeE s own) m i M' acc).bind (fun q => newM q.2 (.lst q.1)) = .ok (d, Mend),
    ⟨wf, js1, M1, [], [], Beside.start T1 hD trivial, .nil, e1⟩, ?_⟩
  rintro i m H' ⟨js', M', acc, vs, B, RA, e⟩
  obtain ⟨q, e2, e3⟩ := bind_ok e
  cases m with
  | zero => cases e2
  | succ m =>
    have e2 : R.of (c.at_ M' i) _ = .ok q := e2
    obtain ⟨o, ho, e2⟩ := of_ok e2
    cases o with
    | none =>
      cases e2
      cases e3
      obtain ⟨x, T'⟩ := B.join hD (.lst RA)
      refine .inl ⟨(src js' H' M' B.ext B.tie i).1 ho, fin _ H' (.ref D) x T' (.ref ?_)⟩
      rw [List.getElem?_append_right (by rw [B.tie.len]; exact Nat.le_refl _), B.tie.len, Nat.sub_self]
      rfl
    | some x =>
      obtain ⟨p, e4, e5⟩ := bind_ok e2
      obtain ⟨hgo, hy⟩ := (src js' H' M' B.ext B.tie i).2 x ho
      refine .inr ⟨hgo, fun H'' => ∃ js' M' acc vs, Beside K js1 H1 D js' H'' M' (.lst vs) ∧ Reps K js' H'' acc vs ∧ (compX c set cond elt (wipeE s own) m (i + 1) M' acc).bind (fun q => newM q.2 (.lst q.1)) = .ok (d, Mend),
        fun H'' w => ⟨m, Nat.lt_succ_self _, w⟩, fun v H2 y => ?_⟩
      obtain ⟨js2, x2, T2, r2⟩ := hy v H2 y
      have B2 := B.go x2 T2
      unfold turnC at e4
      obtain ⟨p1, f1, e4⟩ := bind_ok e4
      obtain ⟨q1, f2, e4⟩ := bind_ok e4
      refine ⟨js2, M', wipeE s own, x, T2, (S1.ext T1 B2.ext).wipe own, r2, p1.1, p1.2, f1, ?_⟩
      intro js3 H3 t3 x3 T3 S3 hw
      refine ⟨hw.trans (wipe_wipe _ _), js3, p1.2, p1.1, T3, S3, q1.1, q1.2, f2, ?_⟩
      intro js4 H4 b x4 T4 eb
      have eb : q1.1 = b := eb
      subst eb
      have B4 := (B2.go x3 T3).go x4 T4
      have RA4 := ((RA.ext B.tie x2).ext T2 x3).ext T3 x4
      cases hb : q1.1 with
      | false =>
        rw [hb] at e4
        cases e4
        rw [if_neg Bool.false_ne_true]
        exact ⟨js4, q1.2, acc, vs, B4, RA4, by rw [e5]; exact e3⟩
      | true =>
        rw [hb] at e4
        obtain ⟨r1, f3, e4⟩ := bind_ok e4
        obtain ⟨hlt, e4⟩ := when_ok e4
        cases e4
        rw [if_pos rfl]
        refine ⟨js4, q1.2, p1.1, T4, S3.ext T3 x4, r1.1, r1.2, f3, fun js5 H5 y5 x5 T5 r5 => ?_⟩
        have B5 := B4.go x5 T5
        have kp := Kp.side (js := js5) (K := K) (o1 := HO.lst (vs ++ [y5])) B5.at_ B5.plain
        refine ⟨vs, B5.at_, by rw [← RA.length]; exact hlt, js5, r1.2, acc ++ [r1.1], vs ++ [y5], B5.put hD trivial, (((RA4.ext T4 x5).append (.cons r5 .nil))).kp kp, by rw [e5]; exact e3⟩
end Cp

/-! By values, by parts: the readings that the walk asks, from the compact run. -/
namespace Cp
open PySem L2

theorem opr_weak {X : Cx} {f : Value → Value → Sem Value} {r r' : R2} (h : OpR X f r) (w : ∀ x y H Q, r' x y H Q → r x y H Q) : OpR X f r' :=
  fun pins s σ H x y v u Q I rx ry q => h pins s σ H x y v u Q I rx ry (w _ _ _ _ q)
theorem ixr_weak {X : Cx} {r r' : R2} (h : IxR X r) (w : ∀ x y H Q, r' x y H Q → r x y H Q) : IxR X r' :=
  fun a b pins s σ H x y v u Q I rx ry q => h a b pins s σ H x y v u Q I rx ry (w _ _ _ _ q)
theorem pe_bad {X : Cx} {e : Expr} {t : TE} (w : ∀ s H Q, ¬ t s H Q) : PE X e t := ⟨fun pins s σ H Q I q => absurd q (w _ _ _)⟩
theorem cmp_rd {X : Cx} (hu : X.A.units + 65 < cLine) (c : Cm) : OpR X (compareOp c.py) (rD2 X.K fun M d e => R.of (cmpD M c d e) fun k => .ok (.bl k, M)) :=
  opr_weak (op_cmp hu c) fun x y H Q ⟨js, M, d, e, T, r1, r2, g⟩ => let ⟨k, hk, g⟩ := g.of; ⟨js, M, d, e, k, T, r1, r2, hk, g.ok .refl T (.bl k)⟩
theorem idx_rd {X : Cx} (hu : X.A.units + 1 < cLine) : IxR X (rD2 X.K fun M d e => R.of (idxD M d e) fun r => .ok (r, M)) :=
  ixr_weak (ix_any hu) fun x y H Q ⟨js, M, d, e, T, r1, r2, g⟩ => let ⟨k, hk, g⟩ := g.of; ⟨js, M, d, e, k, T, r1, r2, hk, fun v rv => g.ok .refl T rv⟩
section
variable {K : PySem.W.Frag} {t : St} {H : Hp}
/-- what is read of a kind of thing -/
theorem ty_rep {js : List Addr} {M : Mem} (T : Tie K js H M) {d : D} {v : V} {u : String} (r : Rep K js H d v) (h : tyD M d = some u) : TyX K H v (.type u) := by
  cases r with
  | non => cases h; exact .base .non
  | bl b => cases h; exact .base (.bl b)
  | int i => cases h; exact .base (.int i)
  | str x => cases h; exact .base (.str x)
  | tup hs _ =>
    cases h
    rcases hs with (hs | ⟨o, hs⟩) | ⟨o, its, n, h1, h2, _⟩
    · exact .base (.tup hs)
    · exact .fTuple hs
    · exact .kTuple h1 h2
  | frl hs _ =>
    cases h
    rcases hs with ⟨o, hs⟩ | ⟨o, its, n, h1, h2, _⟩
    · exact .base (.frz hs)
    · exact .kList h1 h2
  | @ref n a hj =>
    have h : (match M[n]? with | some (MO.lst _) => some "list" | some (MO.dct _) => some "dict" | none => none) = some u := h
    cases e : M[n]? with
    | none => rw [e] at h; cases h
    | some o =>
      rw [e] at h
      obtain ⟨a', u', e1, e2, e3⟩ := T.at_ _ _ e
      rw [hj] at e1; cases e1
      cases e3 with
      | lst _ => cases h; exact .base (.lst e2)
      | dct _ _ => cases h; exact .base (.dK e2)
theorem rd_neg {ra : Ev → Mem → RD} {Q : VK} (h : tE K (fun s M => (ra s M).bind fun p => match p.1 with | .int i => .ok (.int (-i), p.2) | _ => .bad) t H Q) : tUn (rU fun i => .int (-i)) (tE K ra) t H Q := by
  have := one_part (k := fun d M => match d with | .int i => .ok (.int (-i), M) | _ => .bad) h
  obtain ⟨js, M, s, T, S, g⟩ := this
  refine ⟨js, M, s, T, S, g.mono ?_⟩
  rintro x H1 ⟨js1, M1, d, T1, r1, g1⟩
  cases r1 with
  | int i => exact ⟨i, rfl, g1.ok .refl T1 (.int _)⟩
  | _ => exact g1.bad
theorem rd_not {ra : Ev → Mem → RD} {Q : VK} (h : tE K (fun s M => (ra s M).bind fun p => match p.1 with | .bl b => .ok (.bl (!b), p.2) | _ => .bad) t H Q) : tNotV (tE K ra) t H Q := by
  have := one_part (k := fun d M => match d with | .bl b => .ok (.bl (!b), M) | _ => .bad) h
  obtain ⟨js, M, s, T, S, g⟩ := this
  refine ⟨js, M, s, T, S, g.mono ?_⟩
  rintro x H1 ⟨js1, M1, d, T1, r1, g1⟩
  cases r1 with
  | bl i => exact ⟨i, rfl, g1.ok .refl T1 (.bl _)⟩
  | _ => exact g1.bad
theorem rd_chain {ra rb rc : Ev → Mem → RD} {c1 c2 : Cm} {Q : VK} (h : tE K (fun s M => (ra s M).bind fun p => (rb s p.2).bind fun q => R.of (cmpD q.2 c1 p.1 q.1) fun k => match k with
    | true => (rc s q.2).bind fun r => R.of (cmpD r.2 c2 q.1 r.1) fun k => .ok (.bl k, r.2)
    | false => .ok (.bl false, q.2)) t H Q) :
    tChain (rC2 K c1) (rC2 K c2) (tE K ra) (tE K rb) (tE K rc) t H Q := by
  obtain ⟨js, M, s, T, S, g⟩ := h
  refine ⟨js, M, s, T, S, g.bind.mono ?_⟩
  rintro x H1 ⟨js1, M1, d, T1, x1, r1, g1⟩
  refine ⟨js1, M1, s, T1, S.ext T x1, g1.bind.mono ?_⟩
  rintro y H2 ⟨js2, M2, e, T2, x2, r2, g2⟩
  obtain ⟨k, hk, g2⟩ := g2.of
  refine ⟨js2, M2, d, e, k, T2, r1.ext T1 x2, r2, hk, k, rfl, ?_⟩
  cases k with
  | false => exact g2.ok .refl T2 (.bl false)
  | true =>
    refine ⟨js2, M2, s, T2, (S.ext T x1).ext T1 x2, g2.bind.mono ?_⟩
    rintro z H3 ⟨js3, M3, f, T3, x3, r3, g3⟩
    obtain ⟨k, hk, g3⟩ := g3.of
    exact ⟨js3, M3, e, f, k, T3, r2.ext T2 x3, r3, hk, g3.ok .refl T3 (.bl k)⟩
theorem rd_ite {rc : Ev → Mem → R (Bool × Mem)} {ra rb : Ev → Mem → RD} {Q : VK} (h : tE K (fun s M => (rc s M).bind fun p => match p.1 with | true => ra s p.2 | false => rb s p.2) t H Q) : tIf (tT K rc) (tE K ra) (tE K rb) t H Q := by
  obtain ⟨js, M, s, T, S, g⟩ := h
  refine ⟨js, M, s, T, S, g.bind.mono ?_⟩
  rintro x H1 ⟨js1, M1, d, T1, x1, r1, g1⟩
  have r1 : d = x := r1
  subst r1
  cases d with
  | true => exact ⟨js1, M1, s, T1, S.ext T x1, g1⟩
  | false => exact ⟨js1, M1, s, T1, S.ext T x1, g1⟩
theorem rd_tup {ra : Ev → Mem → R (List D × Mem)} {Q : VK} (h : tE K (fun s M => (ra s M).bind fun p => R.when (p.1.length ≤ sizeLine) (.ok (.tup p.1, p.2))) t H Q) : tTup (tA K ra) t H Q := by
  obtain ⟨js, M, s, T, S, g⟩ := h
  refine ⟨js, M, s, T, S, g.bind.mono ?_⟩
  rintro x H1 ⟨js1, M1, d, T1, x1, r1, g1⟩
  obtain ⟨hl, g1⟩ := g1.when
  exact ⟨by rw [← r1.length]; exact hl, g1.newT T1 r1⟩
theorem rd_lst {ra : Ev → Mem → R (List D × Mem)} {Q : VK} (h : tE K (fun s M => (ra s M).bind fun p => R.when (p.1.length ≤ sizeLine) (newM p.2 (.lst p.1))) t H Q) : tLst (tA K ra) t H Q := by
  obtain ⟨js, M, s, T, S, g⟩ := h
  refine ⟨js, M, s, T, S, g.bind.mono ?_⟩
  rintro x H1 ⟨js1, M1, d, T1, x1, r1, g1⟩
  obtain ⟨hl, g1⟩ := g1.when
  exact ⟨by rw [← r1.length]; exact hl, g1.new T1 (.lst r1)⟩
theorem rd_rev {ra : Ev → Mem → RD} {Q : VK} (h : tE K (fun s M => (ra s M).bind fun p => revD p.2 p.1) t H Q) : tRev K (tE K ra) t H Q := by
  have := one_part (k := fun d M => revD M d) h
  obtain ⟨js, M, s, T, S, g⟩ := this
  refine ⟨js, M, s, T, S, g.mono ?_⟩
  rintro x H1 ⟨js1, M1, d, T1, r1, g1⟩
  cases d with
  | tup xs =>
    cases r1 with
    | tup hs hr => exact .inr ⟨_, _, rfl, hs, Go.newT T1 g1 hr.reverse⟩
  | ref n =>
    cases e : M1[n]? with
    | none =>
      have g1 : Go K (Rep K) js1 H1 (match M1[n]? with | some (.lst xs) => newM M1 (.lst xs.reverse) | _ => .bad) Q := g1
      rw [e] at g1; exact g1.bad
    | some o =>
      have g1 : Go K (Rep K) js1 H1 (match M1[n]? with | some (.lst xs) => newM M1 (.lst xs.reverse) | _ => .bad) Q := g1
      rw [e] at g1
      obtain ⟨a, u, rfl, hj, h1, o1⟩ := r1.refH T1 e
      cases o1 with
      | lst hr => exact .inl ⟨a, _, rfl, .inl (.inl h1), g1.new T1 (.lst hr.reverse)⟩
      | dct _ _ => exact g1.bad
  | _ => exact g1.bad
theorem rd_slc {ra : Ev → Mem → RD} {rl rh : Ev → Mem → R (Option Int × Mem)} {Q : VK} (h : tE K (fun s M => (ra s M).bind fun p => (rl s p.2).bind fun q => (rh s q.2).bind fun r => slcD r.2 p.1 q.1 r.1) t H Q) :
    L2.tSl (rSl2 K) (tE K ra) (tO K rl) (tO K rh) t H Q := by
  obtain ⟨js, M, s, T, S, g⟩ := h
  refine ⟨js, M, s, T, S, g.bind.mono ?_⟩
  rintro x H1 ⟨js1, M1, d, T1, x1, r1, g1⟩
  refine ⟨js1, M1, s, T1, S.ext T x1, g1.bind.mono ?_⟩
  rintro lo H2 ⟨js2, M2, e, T2, x2, r2, g2⟩
  have r2 : e = lo := r2
  subst r2
  refine ⟨js2, M2, s, T2, (S.ext T x1).ext T1 x2, g2.bind.mono ?_⟩
  rintro hi H3 ⟨js3, M3, f, T3, x3, r3, g3⟩
  have r3 : f = hi := r3
  subst r3
  exact ⟨js3, M3, d, T3, (r1.ext T1 x2).ext T2 x3, g3⟩
theorem rd_arg {ra : Ev → Mem → R (List D × Mem)} {f : Mem → List D → RD} {Q : VK} (h : tE K (fun s M => (ra s M).bind fun p => f p.2 p.1) t H Q) :
    tA K ra t H fun vs H1 => ∃ js M ds, Tie K js H1 M ∧ Reps K js H1 ds vs ∧ Go K (Rep K) js H1 (f M ds) Q := by
  obtain ⟨js, M, s, T, S, g⟩ := h
  refine ⟨js, M, s, T, S, g.bind.mono ?_⟩
  rintro x H1 ⟨js1, M1, d, T1, x1, r1, g1⟩
  exact ⟨js1, M1, d, T1, r1, g1⟩
theorem rd_isi {ra : Ev → Mem → RD} {ty : String} {Q : VK} (h : tE K (fun s M => (ra s M).bind fun p => R.of (tyD p.2 p.1) fun u => R.of (L2.kitB u ty) fun k => .ok (.bl k, p.2)) t H Q) :
    tCB (rIsi K) (tCons (tE K ra) (tCons (tC (.ty ty)) tNil)) t H Q := by
  have := one_part (k := fun d M => R.of (tyD M d) fun u => R.of (L2.kitB u ty) fun k => .ok (.bl k, M)) h
  obtain ⟨js, M, s, T, S, g⟩ := this
  refine ⟨js, M, s, T, S, g.mono ?_⟩
  rintro x H1 ⟨js1, M1, d, T1, r1, g1⟩
  obtain ⟨u, hu, g1⟩ := g1.of
  obtain ⟨k, hk, g1⟩ := g1.of
  exact ⟨x, .ty ty, .type u, .type ty, k, rfl, .ty ty, ty_rep T1 r1 hu, kit_ty hk, g1.ok .refl T1 (.bl k)⟩
theorem tyM_rep {js : List Addr} {M : Mem} (T : Tie K js H M) {d : D} {v : V} {m : Me} (r : Rep K js H d v) (h : tyM m M d = true) :
    (m.ofS = true ∧ tyV K "str" v H) ∨ (m.ofL = true ∧ tyV K "list" v H) ∨ (m.ofK = true ∧ tyV K "dict" v H) := by
  cases r with
  | str x => exact .inl ⟨h, rfl⟩
  | @ref n a hj =>
    have h : (match M[n]? with | some (MO.lst _) => m.ofL | some (MO.dct _) => m.ofK | _ => false) = true := h
    cases e : M[n]? with
    | none => rw [e] at h; cases h
    | some o =>
      rw [e] at h
      obtain ⟨a', u', e1, e2, e3⟩ := T.at_ _ _ e
      rw [hj] at e1; cases e1
      cases e3 with
      | lst _ => exact .inr (.inl ⟨h, .inl ⟨rfl, _, .inl (.inl e2)⟩⟩)
      | dct _ _ => exact .inr (.inr ⟨h, .inr (.inr (.inl ⟨rfl, .inl ⟨_, e2⟩⟩))⟩)
  | _ => exact absurd h Bool.false_ne_true
theorem rd_meth {ro : Ev → Mem → RD} {ra : Ev → Mem → R (List D × Mem)} {m : Me} {f : Mem → D → List D → RD} {T : String} {Q : VK}
    (w : ∀ v H, (m.ofS = true ∧ tyV K "str" v H) ∨ (m.ofL = true ∧ tyV K "list" v H) ∨ (m.ofK = true ∧ tyV K "dict" v H) → tyV K T v H)
    (h : tE K (fun s M => (ro s M).bind fun p => R.when (tyM m p.2 p.1 = true) ((ra s p.2).bind fun q => f q.2 p.1 q.1)) t H Q) :
    tBM K T (rMe K f) (tE K ro) (tA K ra) t H Q := by
  obtain ⟨js, M, s, T, S, g⟩ := h
  refine ⟨js, M, s, T, S, g.bind.mono ?_⟩
  rintro x H1 ⟨js1, M1, d, T1, x1, r1, g1⟩
  obtain ⟨hk, g1⟩ := g1.when
  refine ⟨w x H1 (tyM_rep T1 r1 hk), js1, M1, s, T1, S.ext T x1, g1.bind.mono ?_⟩
  rintro ys H2 ⟨js2, M2, e, T2, x2, r2, g2⟩
  exact ⟨js2, M2, d, e, T2, r1.ext T1 x2, r2, g2⟩
theorem rd_meth0 {ro : Ev → Mem → RD} {m : Me} {f : Mem → D → List D → RD} {T : String} {Q : VK}
    (w : ∀ v H, (m.ofS = true ∧ tyV K "str" v H) ∨ (m.ofL = true ∧ tyV K "list" v H) ∨ (m.ofK = true ∧ tyV K "dict" v H) → tyV K T v H)
    (h : tE K (fun s M => (ro s M).bind fun p => R.when (tyM m p.2 p.1 = true) (f p.2 p.1 [])) t H Q) :
    tBM0 K T (rMe K f) (tE K ro) t H Q := by
  obtain ⟨js, M, s, T, S, g⟩ := h
  refine ⟨js, M, s, T, S, g.bind.mono ?_⟩
  rintro x H1 ⟨js1, M1, d, T1, x1, r1, g1⟩
  obtain ⟨hk, g1⟩ := g1.when
  exact ⟨w x H1 (tyM_rep T1 r1 hk), js1, M1, d, [], T1, r1, .nil, g1⟩
theorem reps_rg {js : List Addr} (a b : Int) : Reps K js H (rngD a b) (rgV a b) := by
  have : rngD a b = ((List.range (b - a).toNat).map fun i => a + (i : Nat)).map D.int := by unfold rngD; rw [List.map_map]; rfl
  rw [this]
  have : rgV a b = ((List.range (b - a).toNat).map fun i => a + (i : Nat)).map V.int := by unfold rgV; rw [List.map_map]; rfl
  rw [this]
  exact Reps.of_ints _
theorem rgOk_of {a b : Int} (h : rngOk2 a b = true) : RgOk a b := by
  unfold rngOk2 rngOk at h
  simp only [Bool.and_eq_true, decide_eq_true_eq] at h
  exact ⟨h.1.1.1.1, h.1.1.1.2, h.1.1.2, h.1.2, h.2⟩
theorem rd_trg {ra : Ev → Mem → RD} {Q : VK} (h : tE K (fun s M => (ra s M).bind fun p => match p.1 with | .int n => R.when (rngOk2 0 n = true) (.ok (.tup (rngD 0 n), p.2)) | _ => .bad) t H Q) :
    tTupRg (tRg1 (tE K ra)) t H Q := by
  have := one_part (k := fun d M => match d with | .int n => R.when (rngOk2 0 n = true) (.ok (.tup (rngD 0 n), M)) | _ => .bad) h
  obtain ⟨js, M, s, T, S, g⟩ := this
  refine ⟨js, M, s, T, S, g.mono ?_⟩
  rintro x H1 ⟨js1, M1, d, T1, r1, g1⟩
  cases r1 with
  | int i =>
    obtain ⟨hk, g1⟩ := Go.when g1
    exact ⟨i, rfl, rgOk_of hk, Go.newT T1 g1 (reps_rg 0 i)⟩
  | _ => exact g1.bad
theorem rd_lrg {ra : Ev → Mem → RD} {Q : VK} (h : tE K (fun s M => (ra s M).bind fun p => match p.1 with | .int n => R.when (rngOk2 0 n = true) (newM p.2 (.lst (rngD 0 n))) | _ => .bad) t H Q) :
    tLstRg (tRg1 (tE K ra)) t H Q := by
  have := one_part (k := fun d M => match d with | .int n => R.when (rngOk2 0 n = true) (newM M (.lst (rngD 0 n))) | _ => .bad) h
  obtain ⟨js, M, s, T, S, g⟩ := this
  refine ⟨js, M, s, T, S, g.mono ?_⟩
  rintro x H1 ⟨js1, M1, d, T1, r1, g1⟩
  cases r1 with
  | int i =>
    obtain ⟨hk, g1⟩ := Go.when g1
    exact ⟨i, rfl, rgOk_of hk, Go.new T1 g1 (.lst (reps_rg 0 i))⟩
  | _ => exact g1.bad
theorem rd_cons {ra : Ev → Mem → RD} {rs : Ev → Mem → R (List D × Mem)} {Q : List V → Hp → Prop} (h : tA K (fun s M => (ra s M).bind fun p => (rs s p.2).bind fun q => .ok (p.1 :: q.1, q.2)) t H Q) : tCons (tE K ra) (tA K rs) t H Q := by
  obtain ⟨js, M, s, T, S, g⟩ := h
  refine ⟨js, M, s, T, S, g.bind.mono ?_⟩
  rintro x H1 ⟨js1, M1, d, T1, x1, r1, g1⟩
  refine ⟨js1, M1, s, T1, S.ext T x1, g1.bind.mono ?_⟩
  rintro xs H2 ⟨js2, M2, e, T2, x2, r2, g2⟩
  exact g2.ok .refl T2 (.cons (r1.ext T1 x2) r2)
theorem rd_nil {Q : List V → Hp → Prop} (h : tA K (fun _ M => .ok ([], M)) t H Q) : tNil t H Q := by
  obtain ⟨js, M, s, T, S, g⟩ := h
  exact g.ok .refl T .nil
/-- and, or as values -/
theorem rd_one {ra : Ev → Mem → RD} {c : Bool} {Q : VK} (h : tE K (fun s M => (ra s M).bind fun p => match p.1 with | .bl b => if b = c then .ok (.bl c, p.2) else .ok (.bl b, p.2) | _ => .bad) t H Q) : tE K ra t H Q := by
  have := one_part (k := fun d M => match d with | .bl b => if b = c then .ok (.bl c, M) else .ok (.bl b, M) | _ => .bad) h
  obtain ⟨js, M, s, T, S, g⟩ := this
  refine ⟨js, M, s, T, S, g.mono ?_⟩
  rintro x H1 ⟨js1, M1, d, T1, r1, g1⟩
  cases r1 with
  | bl b =>
    have g1 : Go K (Rep K) js1 H1 (if b = c then .ok (.bl c, M1) else .ok (.bl b, M1)) Q := g1
    split at g1
    · rename_i e; subst e; exact g1.ok .refl T1 (.bl _)
    · exact g1.ok .refl T1 (.bl _)
  | _ => exact g1.bad
theorem rd_and {ra rb : Ev → Mem → RD} {Q : VK} (h : tE K (fun s M => (ra s M).bind fun p => match p.1 with | .bl b => if b = true then rb s p.2 else .ok (.bl b, p.2) | _ => .bad) t H Q) : tAndV (tE K ra) (tE K rb) t H Q := by
  obtain ⟨js, M, s, T, S, g⟩ := h
  refine ⟨js, M, s, T, S, g.bind.mono ?_⟩
  rintro x H1 ⟨js1, M1, d, T1, x1, r1, g1⟩
  cases r1 with
  | bl b =>
    refine ⟨b, rfl, ?_⟩
    cases b with
    | true => exact ⟨js1, M1, s, T1, S.ext T x1, g1⟩
    | false => exact Go.ok g1 .refl T1 (.bl _)
  | _ => exact g1.bad
theorem rd_or {ra rb : Ev → Mem → RD} {Q : VK} (h : tE K (fun s M => (ra s M).bind fun p => match p.1 with | .bl b => if b = false then rb s p.2 else .ok (.bl b, p.2) | _ => .bad) t H Q) : tOrV (tE K ra) (tE K rb) t H Q := by
  obtain ⟨js, M, s, T, S, g⟩ := h
  refine ⟨js, M, s, T, S, g.bind.mono ?_⟩
  rintro x H1 ⟨js1, M1, d, T1, x1, r1, g1⟩
  cases r1 with
  | bl b =>
    refine ⟨b, rfl, ?_⟩
    cases b with
    | true => exact Go.ok g1 .refl T1 (.bl _)
    | false => exact ⟨js1, M1, s, T1, S.ext T x1, g1⟩
  | _ => exact g1.bad
theorem rd_part {ra : Ev → Mem → RD} {Q : Option Int → Hp → Prop} (h : tO K (fun s M => (ra s M).bind fun p => match p.1 with | .int i => .ok (some i, p.2) | _ => .bad) t H Q) : tPart (tE K ra) t H Q := by
  obtain ⟨js, M, s, T, S, g⟩ := h
  refine ⟨js, M, s, T, S, g.bind.mono ?_⟩
  rintro x H1 ⟨js1, M1, d, T1, x1, r1, g1⟩
  cases r1 with
  | int b => exact ⟨b, rfl, g1.ok .refl T1 rfl⟩
  | _ => exact g1.bad
theorem rd_nopart {Q : Option Int → Hp → Prop} (h : tO K (fun _ M => .ok (none, M)) t H Q) : tNoPart t H Q := by
  obtain ⟨js, M, s, T, S, g⟩ := h
  exact g.ok .refl T rfl
/-- tests -/
theorem rd_tnot {ra : Ev → Mem → R (Bool × Mem)} {Q : Bool → Hp → Prop} (h : tT K (fun s M => (ra s M).bind fun p => .ok (!p.1, p.2)) t H Q) : tNot (tT K ra) t H Q := by
  obtain ⟨js, M, s, T, S, g⟩ := h
  refine ⟨js, M, s, T, S, g.bind.mono ?_⟩
  rintro x H1 ⟨js1, M1, d, T1, x1, r1, g1⟩
  have r1 : d = x := r1
  subst r1
  exact g1.ok .refl T1 rfl
theorem rd_t1 {ra : Ev → Mem → R (Bool × Mem)} {c : Bool} {Q : Bool → Hp → Prop} (h : tT K (fun s M => (ra s M).bind fun p => if p.1 = c then .ok (c, p.2) else .ok (p.1, p.2)) t H Q) : tT K ra t H Q := by
  obtain ⟨js, M, s, T, S, g⟩ := h
  refine ⟨js, M, s, T, S, g.bind.mono ?_⟩
  rintro x H1 ⟨js1, M1, d, T1, x1, r1, g1⟩
  have r1 : d = x := r1
  subst r1
  have g1 : Go K EqP js1 H1 (if d = c then .ok (c, M1) else .ok (d, M1)) Q := g1
  split at g1
  · rename_i e; subst e; exact g1.ok .refl T1 rfl
  · exact g1.ok .refl T1 rfl
theorem rd_tand {ra rb : Ev → Mem → R (Bool × Mem)} {Q : Bool → Hp → Prop} (h : tT K (fun s M => (ra s M).bind fun p => if p.1 = true then rb s p.2 else .ok (p.1, p.2)) t H Q) : tAnd (tT K ra) (tT K rb) t H Q := by
  obtain ⟨js, M, s, T, S, g⟩ := h
  refine ⟨js, M, s, T, S, g.bind.mono ?_⟩
  rintro x H1 ⟨js1, M1, d, T1, x1, r1, g1⟩
  have r1 : d = x := r1
  subst r1
  cases d with
  | true => exact ⟨js1, M1, s, T1, S.ext T x1, g1⟩
  | false => exact Go.ok g1 .refl T1 rfl
theorem rd_tor {ra rb : Ev → Mem → R (Bool × Mem)} {Q : Bool → Hp → Prop} (h : tT K (fun s M => (ra s M).bind fun p => if p.1 = false then rb s p.2 else .ok (p.1, p.2)) t H Q) : tOr (tT K ra) (tT K rb) t H Q := by
  obtain ⟨js, M, s, T, S, g⟩ := h
  refine ⟨js, M, s, T, S, g.bind.mono ?_⟩
  rintro x H1 ⟨js1, M1, d, T1, x1, r1, g1⟩
  have r1 : d = x := r1
  subst r1
  cases d with
  | true => exact Go.ok g1 .refl T1 rfl
  | false => exact ⟨js1, M1, s, T1, S.ext T x1, g1⟩
theorem rd_truth {ra : Ev → Mem → RD} {Q : Bool → Hp → Prop} (h : tT K (fun s M => (ra s M).bind fun p => R.of (truth p.2 p.1) fun b => .ok (b, p.2)) t H Q) :
    tE K ra t H fun x H1 => ∃ js M d b, Tie K js H1 M ∧ Rep K js H1 d x ∧ truth M d = some b ∧ Q b H1 := by
  obtain ⟨js, M, s, T, S, g⟩ := h
  refine ⟨js, M, s, T, S, g.bind.mono ?_⟩
  rintro x H1 ⟨js1, M1, d, T1, x1, r1, g1⟩
  obtain ⟨b, hb, g1⟩ := g1.of
  exact ⟨js1, M1, d, b, T1, r1, hb, g1.ok .refl T1 rfl⟩
/-- a test whose value is a bool for sure -/
theorem rd_test {ra : Ev → Mem → RD} {ta : TE} {Q : Bool → Hp → Prop} (w : ∀ Q', tE K ra t H Q' → ta t H Q') (hb : ∀ s M d M', ra s M = .ok (d, M') → ∃ b, d = .bl b)
    (h : tT K (fun s M => (ra s M).bind fun p => R.of (truth p.2 p.1) fun b => .ok (b, p.2)) t H Q) : tTest ta t H Q := by
  refine w _ ?_
  obtain ⟨js, M, s, T, S, g⟩ := h
  refine ⟨js, M, s, T, S, ?_⟩
  obtain ⟨c, M2, e, f⟩ := g
  obtain ⟨p, e1, e2⟩ := bind_ok e
  obtain ⟨k, hk⟩ := hb s M p.1 p.2 e1
  obtain ⟨b, e3, e4⟩ := of_ok e2
  rw [hk] at e3
  cases e3
  cases e4
  refine ⟨p.1, p.2, e1, fun js' H' x x1 T1 r1 => ?_⟩
  rw [hk] at r1
  cases r1
  exact ⟨c, rfl, f js' H' c x1 T1 rfl⟩
end

/-! ### dict displays -/
theorem put_rep {K : PySem.W.Frag} {js : List Addr} {H : Hp} {k : Key} {d : D} {v : V} (r : Rep K js H d v) {kvs : List (Key × D)} {ws : List (Key × V)} (e : kvs.map (·.1) = ws.map (·.1)) (q : Reps K js H (kvs.map (·.2)) (ws.map (·.2))) :
    (putD kvs k d).map (·.1) = (putK ws k v).map (·.1) ∧ Reps K js H ((putD kvs k d).map (·.2)) ((putK ws k v).map (·.2)) := by
  have hany : ∀ (kvs : List (Key × D)) (ws : List (Key × V)), kvs.map (·.1) = ws.map (·.1) → (kvs.any fun kv => decide (kv.1 = k)) = ws.any fun kv => decide (kv.1 = k) := by
    intro kvs ws e
    have h1 : (kvs.any fun kv => decide (kv.1 = k)) = (kvs.map (·.1)).any fun a => decide (a = k) := by rw [List.any_map]; rfl
    have h2 : (ws.any fun kv => decide (kv.1 = k)) = (ws.map (·.1)).any fun a => decide (a = k) := by rw [List.any_map]; rfl
    rw [h1, h2, e]
  have hmap : ∀ (kvs : List (Key × D)) (ws : List (Key × V)), kvs.map (·.1) = ws.map (·.1) → Reps K js H (kvs.map (·.2)) (ws.map (·.2)) →
      (kvs.map fun kv => if kv.1 = k then (kv.1, d) else kv).map (·.1) = (ws.map fun kv => if kv.1 = k then (kv.1, v) else kv).map (·.1) ∧
      Reps K js H ((kvs.map fun kv => if kv.1 = k then (kv.1, d) else kv).map (·.2)) ((ws.map fun kv => if kv.1 = k then (kv.1, v) else kv).map (·.2)) := by
    intro kvs
    induction kvs with
    | nil =>
      intro ws e q
      cases ws with
      | nil => exact ⟨rfl, .nil⟩
      | cons _ _ => cases e
    | cons a kvs ih =>
      intro ws e q
      cases ws with
      | nil => cases e
      | cons b ws =>
        rw [List.map_cons, List.map_cons] at e q
        injection e with e1 e2
        cases q with
        | cons q1 q2 =>
          obtain ⟨i1, i2⟩ := ih ws e2 q2
          have e1' : a.1 = b.1 := e1
          by_cases hk : a.1 = k
          · have hb : b.1 = k := by rw [← e1']; exact hk
            simp only [List.map_cons, if_pos hk, if_pos hb]
            exact ⟨by rw [i1, hk, hb], .cons r i2⟩
          · have hb : ¬ b.1 = k := by rw [← e1']; exact hk
            simp only [List.map_cons, if_neg hk, if_neg hb]
            exact ⟨by rw [i1, e1'], .cons q1 i2⟩
  unfold putD putK
  rw [hany kvs ws e]
  by_cases hc : (ws.any fun kv => decide (kv.1 = k)) = true
  · rw [if_pos hc, if_pos hc]
    exact hmap kvs ws e q
  · rw [if_neg hc, if_neg hc]
    simp only [List.map_append, List.map_cons, List.map_nil]
    exact ⟨by rw [e], q.append (.cons r .nil)⟩
theorem merge_rep {K : PySem.W.Frag} {js : List Addr} {H : Hp} : ∀ {more : List (Key × D)} {mv : List (Key × V)} {kvs : List (Key × D)} {ws : List (Key × V)}, more.map (·.1) = mv.map (·.1) → Reps K js H (more.map (·.2)) (mv.map (·.2)) →
    kvs.map (·.1) = ws.map (·.1) → Reps K js H (kvs.map (·.2)) (ws.map (·.2)) → RepO K js H (.dct (mergeD kvs more)) (.dK (mergeK ws mv))
  | [], [], _, _, _, _, e, q => .dct e q
  | [], _ :: _, _, _, e, _, _, _ => by cases e
  | _ :: _, [], _, _, e, _, _, _ => by cases e
  | (k, d) :: more, (k', v) :: mv, kvs, ws, e, q, e2, q2 => by
    rw [List.map_cons, List.map_cons] at e q
    injection e with e1 e3
    have e1' : k = k' := e1
    subst e1'
    cases q with
    | cons q1 q3 =>
      obtain ⟨i1, i2⟩ := put_rep (k := k) q1 e2 q2
      exact merge_rep (kvs := putD kvs k d) (ws := putK ws k v) e3 q3 i1 i2
theorem pairs_rep {K : PySem.W.Frag} {js : List Addr} {H : Hp} : ∀ {ks ds : List D} {kvs : List (Key × D)} {ps : List (V × V)}, pairsD ks ds = some kvs → Reps K js H ks (ps.map (·.1)) → Reps K js H ds (ps.map (·.2)) →
    ∃ ws : List (Key × V), ps = ws.map (fun kv => (kV kv.1, kv.2)) ∧ kvs.map (·.1) = ws.map (·.1) ∧ Reps K js H (kvs.map (·.2)) (ws.map (·.2))
  | [], [], kvs, ps, e, r1, r2 => by
    cases e
    cases ps with
    | nil => exact ⟨[], rfl, rfl, .nil⟩
    | cons _ _ => cases r1
  | [], _ :: _, _, _, e, _, _ => by cases e
  | _ :: _, [], _, _, e, _, _ => by cases e
  | k :: ks, d :: ds, kvs, ps, e, r1, r2 => by
    have e : ((keyD k).bind fun k => (pairsD ks ds).map fun r => (k, d) :: r) = some kvs := e
    obtain ⟨k', hk, e⟩ := Option.bind_eq_some_iff.mp e
    obtain ⟨r, hr, e⟩ := Option.map_eq_some_iff.mp e
    subst e
    cases ps with
    | nil => cases r1
    | cons p ps =>
      cases r1 with
      | cons a1 b1 =>
        cases r2 with
        | cons a2 b2 =>
          obtain ⟨ws, h1, h2, h3⟩ := pairs_rep hr b1 b2
          refine ⟨(k', p.2) :: ws, ?_, ?_, .cons a2 h3⟩
          · rw [List.map_cons, ← h1, ← key_rep a1 hk]
          · rw [List.map_cons, List.map_cons, h2]
def RepPs (K : PySem.W.Frag) (js : List Addr) (H : Hp) (a : List (D × D)) (b : List (V × V)) : Prop := Reps K js H (a.map (·.1)) (b.map (·.1)) ∧ Reps K js H (a.map (·.2)) (b.map (·.2))
theorem mergeD_nil (kvs : List (Key × D)) : mergeD kvs [] = kvs := rfl
theorem pairsD_len : ∀ {ks ds : List D} {kvs : List (Key × D)}, pairsD ks ds = some kvs → ks.length = kvs.length
  | [], [], _, e => by cases e; rfl
  | [], _ :: _, _, e => by cases e
  | _ :: _, [], _, e => by cases e
  | k :: ks, d :: ds, kvs, e => by
    have e : ((keyD k).bind fun k => (pairsD ks ds).map fun r => (k, d) :: r) = some kvs := e
    obtain ⟨k', hk, e⟩ := Option.bind_eq_some_iff.mp e
    obtain ⟨r, hr, e⟩ := Option.map_eq_some_iff.mp e
    subst e
    rw [List.length_cons, List.length_cons, pairsD_len hr]
theorem rd_dic {K : PySem.W.Frag} {t : St} {H : Hp} {rp : Ev → Mem → R (List (D × D) × Mem)} {trs : List (TE × TE)} {Q : VK}
    (hp : ∀ {js M s H Q'}, Tie K js H M → RepS K js H s t → Go K (RepPs K) js H (rp s M) Q' → tPairs trs t H Q')
    (h : tE K (fun s M => (rp s M).bind fun p => R.of (pairsD (p.1.map (·.1)) (p.1.map (·.2))) fun kvs => R.when (kvs.length ≤ 15) (newM p.2 (.dct (mergeD [] kvs)))) t H Q) : tDisp trs t H Q := by
  obtain ⟨js, M, s, T, S, c, M2, e, f⟩ := h
  intro p hn
  have B := Beside.start (o := HO.dK []) T hn trivial
  obtain ⟨a, e1, e⟩ := bind_ok e
  obtain ⟨kvs, e2, e⟩ := of_ok e
  obtain ⟨hz, e⟩ := when_ok e
  cases e
  refine hp B.tie (S.ext T B.ext) ⟨a.1, a.2, e1, fun js' H' ps x1 T1 r1 => ?_⟩
  have B1 := B.go x1 T1
  obtain ⟨ws, h1, h2, h3⟩ := pairs_rep e2 r1.1 r1.2
  refine ⟨B1.at_, ws, h1, ?_, ?_⟩
  · have : kvs.length = ws.length := by have := congrArg List.length h2; simpa using this
    omega
  · have kp := Kp.side (K := K) (js := js') (o1 := HO.dK (mergeK [] ws)) B1.at_ B1.plain
    have B2 := B1.put (o1 := HO.dK (mergeK [] ws)) hn trivial
    have hr : RepO K js' H' (.dct (mergeD [] kvs)) (.dK (mergeK [] ws)) := merge_rep h2 h3 rfl .nil
    obtain ⟨x, T'⟩ := B2.join hn (hr.kp kp)
    refine f _ _ (.ref p) x T' (.ref ?_)
    rw [List.getElem?_append_right (by rw [B2.tie.len]; exact Nat.le_refl _), B2.tie.len, Nat.sub_self]
    rfl
end Cp

/-! Expressions: the compact run's answer is the walk's. -/
namespace Cp
open PySem L2

/-! ### targets -/
def rSet2 (K : PySem.W.Frag) : V → V → V → Hp → (Hp → Prop) → Prop := fun o i v H Q => ∃ js M d e w M', Tie K js H M ∧ Rep K js H d o ∧ Rep K js H e i ∧ Rep K js H w v ∧ setItem M d e w = .ok M' ∧ ∀ js' H', Ext js H js' H' → Tie K js' H' M' → Q H'
theorem set_any {X : Cx} (hu : X.A.units + 1 < cLine) : PSet X (rSet2 X.K) := by
  intro pins s σ H o i v ov iv u Q I ro ri rv h
  obtain ⟨js, M, d, e, w, M', T, r1, r2, r3, hs, f⟩ := h
  cases d with
  | ref n =>
    cases hm : M[n]? with
    | none =>
      have hs : (match M[n]? with | some (MO.lst xs) => (match e with | .int k => R.of (L2.ixN xs.length k) fun j => R.ok (M.set n (.lst (xs.set j w))) | _ => .bad) | some (MO.dct kvs) => R.of (keyD e) fun k => R.when (kvs.length < sizeLine) (.ok (M.set n (.dct (putD kvs k w)))) | _ => .bad) = .ok M' := hs
      rw [hm] at hs; cases hs
    | some mo =>
      have hs : (match M[n]? with | some (MO.lst xs) => (match e with | .int k => R.of (L2.ixN xs.length k) fun j => R.ok (M.set n (.lst (xs.set j w))) | _ => .bad) | some (MO.dct kvs) => R.of (keyD e) fun k => R.when (kvs.length < sizeLine) (.ok (M.set n (.dct (putD kvs k w)))) | _ => .bad) = .ok M' := hs
      rw [hm] at hs
      obtain ⟨a, q, rfl, hj, h1, o1⟩ := r1.refH T hm
      cases o1 with
      | @lst xs vs hr =>
        cases r2 with
        | int k =>
          obtain ⟨j, hj2, hs⟩ := of_ok hs
          cases hs
          have tt := T.set hj (RepO.lst (hr.set r3 j))
          refine set_list pins s σ H _ _ _ ov iv u Q I ro ri rv ⟨a, vs, k, j, rfl, rfl, h1, ?_, f _ _ tt.1 tt.2⟩
          rw [← hr.length]; exact hj2
        | _ => cases hs
      | @dct kvs ws ek hr =>
        obtain ⟨k, hk, hs⟩ := of_ok hs
        obtain ⟨hl, hs⟩ := when_ok hs
        cases hs
        obtain ⟨p1, p2⟩ := put_rep (k := k) r3 ek hr
        have tt := T.set hj (RepO.dct p1 p2)
        have hlen : ws.length < sizeLine := by have := congrArg List.length ek; simp at this; omega
        refine set_dict hu pins s σ H _ _ _ ov iv u Q I ro ri rv ⟨a, _, rfl, .inl ⟨ws, k, h1, key_rep r2 hk, hlen, rfl⟩, f _ _ tt.1 tt.2⟩
  | _ => cases hs
theorem sub1 {i : Expr} (h : noSl i = true) (o : Expr) (pos : Pos) (env : Env) (v : Value) : assign (.Subscript o i pos) env v = (do
      let ov ← holding [v] (eval o env)
      let iv ← holding [v, ov] (eval i env)
      standAt pos
      holding [v, ov, iv] (PySem.setItem ov iv v)
      release [v, ov, iv] []) := by
  cases i <;> first | rfl | exact absurd h Bool.false_ne_true
def setsV : List Nat → List V → St → St
  | i :: is, v :: vs, t => setsV is vs (t.set i (some v))
  | _, _, t => t
theorem sets_rep {K : PySem.W.Frag} {js : List Addr} {H : Hp} : ∀ {is : List Nat} {ds : List D} {vs : List V} {s : Ev} {t : St}, Reps K js H ds vs → RepS K js H s t → RepS K js H (setsE is ds s) (setsV is vs t)
  | [], _, _, _, _, _, S => S
  | _ :: _, [], _, _, _, .nil, S => S
  | i :: is, _ :: _, _, _, _, .cons a r, S => sets_rep (is := is) r (S.set a i)
theorem wipe_sets {own : List Nat} : ∀ {is : List Nat} {vs : List V} {t : St}, (∀ i ∈ is, i ∈ own) → L2.wipe (setsV is vs t) own = L2.wipe t own
  | [], _, _, _ => rfl
  | _ :: _, [], _, _ => rfl
  | i :: is, v :: vs, t, h => by
    show L2.wipe (setsV is vs (t.set i (some v))) own = _
    rw [wipe_sets fun j hj => h j (List.mem_cons_of_mem _ hj), wipe_set _ _ (h i List.mem_cons_self)]
def gSets (is : List Nat) : TGs := fun vs t H Q => vs.length = is.length ∧ Q (setsV is vs t) H
section
variable {G : Mdl} {N : List Str} {c : Scope} {f : Str → Bool} {n : Nat} {X : Cx}
theorem Okx.ix (k : Okx G N c f n X) {i : Nat} {x : Str} (h : N[i]? = some x) : X.N[i]? = some x := by rw [k.hN]; exact h
theorem Okx.nod (k : Okx G N c f n X) : X.N.Nodup := by rw [k.hN]; exact k.nd
theorem Okx.u1 (k : Okx G N c f n X) : X.A.units + 1 < cLine := by have := k.u66; omega
theorem Okx.u65 (k : Okx G N c f n X) : X.A.units + 65 < cLine := by have := k.u66; omega
theorem names_run (k : Okx G N c f n X) : ∀ {is : List Nat} {es : List Expr}, namesM N c f is es = true → PGs X es (gSets is) ∧ (assignEach es X.env).length = is.length ∧ (assignEach es X.env).findIdx? (·.1) = none
  | [], [], _ => ⟨⟨fun pins s σ H vs us Q I r h => by
      obtain ⟨e, h⟩ := h
      have : vs = [] := List.eq_nil_of_length_eq_zero e
      subst this
      exact pgs_nil.run pins s σ H [] us Q I r ⟨rfl, h⟩⟩, rfl, rfl⟩
  | [], _ :: _, h => absurd h Bool.false_ne_true
  | _ :: _, [], h => absurd h Bool.false_ne_true
  | i :: is, e :: es, h => by
    cases e with
    | Name x p =>
      have h : (decide (N[i]? = some x) && stoB c f x && namesM N c f is es) = true := h
      simp only [Bool.and_eq_true, decide_eq_true_eq] at h
      obtain ⟨⟨h1, h2⟩, h3⟩ := h
      obtain ⟨j1, j2, j3⟩ := names_run k h3
      obtain ⟨l1, l2⟩ := k.sto h2
      refine ⟨⟨fun pins s σ H vs us Q I r h => ?_⟩, by show (_ :: assignEach es X.env).length = _; rw [List.length_cons, List.length_cons, j2], ?_⟩
      · obtain ⟨e, h⟩ := h
        cases vs with
        | nil => cases e
        | cons v vs =>
          exact (pgs_cons (pg_name k.nod (k.ix h1) l1 l2) j1 rfl).run pins s σ H _ us Q I r ⟨v, vs, rfl, ⟨Nat.succ.inj e, h⟩⟩
      · show (_ :: assignEach es X.env).findIdx? (·.1) = none
        rw [List.findIdx?_cons]
        simp [j3]
    | _ => exact absurd h Bool.false_ne_true
theorem names_len (k : Okx G N c f n X) {is : List Nat} {es : List Expr} (h : namesM N c f is es = true) : (assignEach es X.env).length = is.length := (names_run k h).2.1
end

/-! ### tests in a row -/
theorem pts_stop {X : Cx} {pins : List (Addr × Obj)} {σ : St} {H : Hp} {s : Shared} {Q : Bool → Hp → Prop} : ∀ {es : List Expr}, Inv X pins σ H s → Q false H →
    wpAny (model X.prog X.w) X.A (forIn es false fun c r => if r = true then do let ok ← isTrue c X.env (eval c X.env); pure (ForInStep.yield ok) else pure (ForInStep.yield r)) (TP X pins σ Q) X.xe s
  | [], I, h => by
    rw [List.forIn_nil]
    exact wpAny_pure ⟨H, I, h⟩
  | e :: es, I, h => by
    rw [List.forIn_cons, if_neg Bool.false_ne_true]
    exact wpAny_bind (wpAny_pure (pts_stop I h))
theorem pts_cons {X : Cx} {e : Expr} {es : List Expr} {ta tb : TT} (h1 : PT X e ta) (h2 : PTs X es tb) : PTs X (e :: es) (tAnd ta tb) := by
  refine ⟨fun pins s σ H Q I h => ?_⟩
  rw [List.forIn_cons, if_pos rfl]
  refine wpAny_bind (wpAny_bind (thn (h1.run pins s σ H _ I h) fun b s1 ⟨H1, I1, q1⟩ => wpAny_pure ?_))
  cases b with
  | true => exact h2.run pins s1 σ H1 Q I1 q1
  | false => exact pts_stop I1 q1

/-! ### arguments -/
theorem star_all {G : Mdl} {N : List Str} {c : Scope} {f : Str → Bool} {env : Env} : ∀ {es : Es} {xs : List Expr}, mEs G N c f es xs = true → starEach xs env = xs.map fun x => (false, eval x env)
  | .nil, [], _ => rfl
  | .nil, _ :: _, h => absurd h Bool.false_ne_true
  | .cons _ _, [], h => absurd h Bool.false_ne_true
  | .cons e es, x :: xs, h => by
    have h : (noStar x && mE G N c f e x && mEs G N c f es xs) = true := h
    simp only [Bool.and_eq_true] at h
    rw [star1 h.1.1, star_all h.2]; rfl
theorem any_back {pos : Pos} {env : Env} (xs : List Expr) : (backTo pos (xs.map fun x => (false, eval x env))).any (·.1) = false := by
  unfold backTo
  rw [List.map_map, List.any_map]
  exact List.any_eq_false.mpr fun x _ => by simp
theorem all_back {pos : Pos} {env : Env} (xs : List Expr) : (backTo pos (xs.map fun x => (false, eval x env))).all (fun x => !x.1) = true := by
  unfold backTo
  rw [List.map_map, List.all_map]
  exact List.all_eq_true.mpr fun x _ => by simp

/-! ### builtins, methods -/
theorem bi_in : ∀ b : Bi, b.nm ∈ bltNames := by intro b; cases b <;> decide
theorem callF_len {G : Mdl} {n f : Nat} {ds : List D} {M : Mem} {z : D × Mem} (h : callF G n f ds M = .ok z) : ∀ F, G.fns[f]? = some F → ds.length = F.ps.length := by
  intro F hF
  cases n with
  | zero => cases h
  | succ n =>
    unfold callF at h
    rw [hF] at h
    exact (when_ok h).1
theorem pe_callV {X : Cx} {b : Bi} {r : List V → Hp → VK → Prop} {e : Expr} {es : List Expr} {p pos : Pos} {t : TA} (hc : CallR X b.val r) (hg : L2.Gl X b.nm) (hm : X.mg b.nm = none) (ha : PA X (e :: es) t)
    (he : starEach (e :: es) X.env = (false, eval e X.env) :: starEach es X.env) (hpl : (backTo pos (starEach es X.env)).any (·.1) = false) : PE X (.Call (.Name b.nm p) (e :: es) [] pos) (tCB r t) := by
  cases b <;> first | exact pe_callB hc hg hm (by decide +kernel) ha (by decide) (by decide) he hpl | exact pe_callTy hc hg hm (by decide +kernel) ha (by decide) (by decide) he hpl
theorem pe_methV {X : Cx} (hu : X.A.units + 1 < cLine) (m : Me) {o : Expr} {xs : List Expr} {apos cpos : Pos} {ro : Ev → Mem → RD} {ra : Ev → Mem → R (List D × Mem)} (ho : PE X o (tE X.K ro)) (ha : PA X xs (tA X.K ra))
    (h0 : xs = [] → ∀ s M, ra s M = .ok ([], M))
    (hbase : attributeBase o m.nm X.env (eval o X.env) = eval o X.env) (hn : xs.length < 29) (hline : (apos.endLine == cpos.line) = true) (hs : starEach xs X.env = xs.map fun x => (false, eval x X.env)) :
    PE X (.Call (.Attribute o m.nm apos) xs [] cpos) (tE X.K fun s M => (ro s M).bind fun p => R.when (tyM m p.2 p.1 = true) ((ra s p.2).bind fun q => meD q.2 m p.1 q.1)) := by
  have main : ∀ (T id : String) (f : Mem → D → List D → RD), PlainAttrs T → Slot T m.nm id → typeOf (.builtin id) = pure (.type "method_descriptor") → MtR X id (rMe X.K f) → (∀ M o ds, meD M m o ds = f M o ds) →
      (∀ v H, (m.ofS = true ∧ tyV X.K "str" v H) ∨ (m.ofL = true ∧ tyV X.K "list" v H) ∨ (m.ofK = true ∧ tyV X.K "dict" v H) → tyV X.K T v H) →
      PE X (.Call (.Attribute o m.nm apos) xs [] cpos) (tE X.K fun s M => (ro s M).bind fun p => R.when (tyM m p.2 p.1 = true) ((ra s p.2).bind fun q => meD q.2 m p.1 q.1)) := by
    intro T id f pa sl ty hm hf w
    have e1 : (fun (s : Ev) (M : Mem) => (ro s M).bind fun p => R.when (tyM m p.2 p.1 = true) ((ra s p.2).bind fun q => meD q.2 m p.1 q.1)) = fun s M => (ro s M).bind fun p => R.when (tyM m p.2 p.1 = true) ((ra s p.2).bind fun q => f q.2 p.1 q.1) := by
      funext s M
      congr 1; funext p; congr 1; congr 1; funext q; exact hf _ _ _
    rw [e1]
    cases xs with
    | nil =>
      have e2 : (fun (s : Ev) (M : Mem) => (ro s M).bind fun p => R.when (tyM m p.2 p.1 = true) ((ra s p.2).bind fun q => f q.2 p.1 q.1)) = fun s M => (ro s M).bind fun p => R.when (tyM m p.2 p.1 = true) (f p.2 p.1 []) := by
        funext s M
        congr 1; funext p; congr 1; rw [h0 rfl]; rfl
      rw [e2]
      exact pe_weak (pe_bm0 pa sl ty hm ho hbase hline) fun s H Q q => rd_meth0 w q
    | cons x xs =>
      have hs1 : starEach (x :: xs) X.env = (false, eval x X.env) :: xs.map fun x => (false, eval x X.env) := hs
      have hs2 : starEach (x :: xs) X.env = (false, eval x X.env) :: starEach xs X.env ∧ starEach xs X.env = xs.map fun x => (false, eval x X.env) := by
        cases x <;> first | exact ⟨rfl, (List.cons.inj hs1).2⟩ | (exfalso; cases hs1)
      refine pe_weak (pe_bm pa sl ty hm ho ha hbase ?_ hline hs2.1 (by rw [hs2.2]; exact any_back xs)) fun s H Q q => rd_meth w q
      rw [hs, all_back]
      have : (x :: xs).length + ([] : List Keyword).length + (if ([] : List Keyword).isEmpty then 0 else 1) < 30 := by
        show (x :: xs).length + 0 + 0 < 30
        omega
      rw [decide_eq_true this]
      rfl
  have bad : (∀ M o ds, meD M m o ds = .bad) → PE X (.Call (.Attribute o m.nm apos) xs [] cpos) (tE X.K fun s M => (ro s M).bind fun p => R.when (tyM m p.2 p.1 = true) ((ra s p.2).bind fun q => meD q.2 m p.1 q.1)) := fun hb =>
    pe_bad fun s H Q ⟨js, M, s', T, S, c, M2, e, _⟩ => by
      obtain ⟨p, e1, e⟩ := bind_ok e
      obtain ⟨_, e⟩ := when_ok e
      obtain ⟨q, e2, e⟩ := bind_ok e
      rw [hb] at e
      cases e
  cases m with
  | append => exact main "list" "list.append" appendD PySem.F.plainAttrs_list PySem.F.slot_list_append PySem.F.type_list_append me_append (fun _ _ _ => rfl) fun v H h => by rcases h with ⟨e, _⟩ | ⟨_, h⟩ | ⟨e, _⟩; cases e; exact h; cases e
  | extend => exact main "list" "list.extend" extendD PySem.F.plainAttrs_list PySem.F.slot_list_extend PySem.F.type_list_extend me_extend (fun _ _ _ => rfl) fun v H h => by rcases h with ⟨e, _⟩ | ⟨_, h⟩ | ⟨e, _⟩; cases e; exact h; cases e
  | pop => exact main "list" "list.pop" popD PySem.F.plainAttrs_list PySem.F.slot_list_pop PySem.F.type_list_pop me_pop (fun _ _ _ => rfl) fun v H h => by rcases h with ⟨e, _⟩ | ⟨_, h⟩ | ⟨e, _⟩; cases e; exact h; cases e
  | join => exact main "str" "str.join" joinD PySem.F.plainAttrs_str PySem.F.slot_str_join PySem.F.type_str_join me_join (fun _ _ _ => rfl) fun v H h => by rcases h with ⟨_, h⟩ | ⟨e, _⟩ | ⟨e, _⟩; exact h; cases e; cases e
  | get => exact main "dict" "dict.get" getD PySem.F.plainAttrs_dict PySem.F.slot_dict_get PySem.F.type_dict_get (me_get hu) (fun _ _ _ => rfl) fun v H h => by rcases h with ⟨e, _⟩ | ⟨e, _⟩ | ⟨_, h⟩; cases e; cases e; exact h
  | _ => exact bad fun _ _ _ => rfl

/-! ### ranges walked -/
section
variable {K : PySem.W.Frag} {t : St} {H : Hp}
theorem rgOk1 {a b : Int} (h : rngOk a b = true) : -(2 ^ 62) ≤ a ∧ a < 2 ^ 62 ∧ -(2 ^ 62) ≤ b ∧ b < 2 ^ 62 := by
  unfold rngOk at h
  simp only [Bool.and_eq_true, decide_eq_true_eq] at h
  exact ⟨h.1.1.1, h.1.1.2, h.1.2, h.2⟩
theorem rd_rg1 {ra : Ev → Mem → RD} {Q : L2.It → Hp → Prop} (h : tI K (fun s M => (ra s M).bind fun p => match p.1 with | .int n => R.when (rngOk 0 n = true) (.ok (.its (rngD 0 n), p.2)) | _ => .bad) t H Q) : iRng1 (tCons (tE K ra) tNil) t H Q := by
  obtain ⟨js, M, s, T, S, g⟩ := h
  refine ⟨js, M, s, T, S, g.bind.mono ?_⟩
  rintro x H1 ⟨js1, M1, d, T1, x1, r1, g1⟩
  cases r1 with
  | int i =>
    obtain ⟨hk, g1⟩ := Go.when g1
    obtain ⟨h1, h2, h3, h4⟩ := rgOk1 hk
    refine ⟨i, rfl, h3, h4, Go.ok g1 .refl T1 ?_⟩
    have := src_rng (K := K) (js := js1) (H := H1) 0 i
    rw [Int.sub_zero] at this
    exact this
  | _ => exact g1.bad
theorem rd_rg2 {ra rb : Ev → Mem → RD} {Q : L2.It → Hp → Prop} (h : tI K (fun s M => (ra s M).bind fun p => (rb s p.2).bind fun q => match p.1, q.1 with | .int m, .int n => R.when (rngOk m n = true) (.ok (.its (rngD m n), q.2)) | _, _ => .bad) t H Q) :
    iRng2 (tCons (tE K ra) (tCons (tE K rb) tNil)) t H Q := by
  obtain ⟨js, M, s, T, S, g⟩ := h
  refine ⟨js, M, s, T, S, g.bind.mono ?_⟩
  rintro x H1 ⟨js1, M1, d, T1, x1, r1, g1⟩
  refine ⟨js1, M1, s, T1, S.ext T x1, g1.bind.mono ?_⟩
  rintro y H2 ⟨js2, M2, e, T2, x2, r2, g2⟩
  cases r1 with
  | int i =>
    cases r2 with
    | int j =>
      obtain ⟨hk, g2⟩ := Go.when g2
      exact ⟨i, j, rfl, rgOk1 hk, Go.ok g2 .refl T2 (src_rng i j)⟩
    | _ => exact g2.bad
  | _ => exact g2.bad
theorem rd_ex {ra : Ev → Mem → RD} {Q : L2.It → Hp → Prop} (h : tI K (fun s M => (ra s M).bind fun p => match p.1 with
    | .tup xs => .ok (.its xs, p.2)
    | .str z => .ok (.its (z.cps.toList.map fun c => .str ⟨#[c]⟩), p.2)
    | .frl xs => .ok (.its xs, p.2)
    | .ref a => match p.2[a]? with
      | some (.lst _) => .ok (.live a, p.2)
      | _ => .bad
    | _ => .bad) t H Q) :
    tE K ra t H fun x H1 => (∃ a xs, x = .ref a ∧ SqL K H1 a xs ∧ Q (Itl K a) H1) ∨ (∃ a xs, x = .ref a ∧ SqT K H1 a xs ∧ Q (Itt K a) H1) ∨ ∃ z, x = .str z ∧ Q (Its z) H1 := by
  obtain ⟨js, M, s, T, S, g⟩ := h
  refine ⟨js, M, s, T, S, g.bind.mono ?_⟩
  rintro x H1 ⟨js1, M1, d, T1, x1, r1, g1⟩
  cases d with
  | tup xs => cases r1 with | tup hs hr => exact .inr (.inl ⟨_, _, rfl, hs, Go.ok g1 .refl T1 (src_tup T1 hs hr)⟩)
  | str z => cases r1; exact .inr (.inr ⟨_, rfl, Go.ok g1 .refl T1 (src_str z)⟩)
  | frl xs => cases r1 with | frl hs hr => exact .inl ⟨_, _, rfl, hs.sq, Go.ok g1 .refl T1 (src_frz T1 hs hr)⟩
  | ref n =>
    have g1 : Go K (IsSrc K) js1 H1 (match M1[n]? with | some (.lst _) => R.ok (Src.live n, M1) | _ => .bad) Q := g1
    cases e : M1[n]? with
    | none => rw [e] at g1; exact g1.bad
    | some o =>
      rw [e] at g1
      obtain ⟨a, u, rfl, hj, h1, o1⟩ := r1.refH T1 e
      cases o1 with
      | lst hr => exact .inl ⟨a, _, rfl, .inl (.inl h1), Go.ok g1 .refl T1 (src_live hj)⟩
      | dct _ _ => exact g1.bad
  | _ => exact g1.bad
end
end Cp

/-! Expressions: the compact run's answer is the walk's. -/
namespace Cp
open PySem L2

section
variable {G : Mdl} {N : List Str} {n : Nat}
theorem map_name {α β : Type} {o : Option α} {g : α → β} {x : β} (h : o.map g = some x) : ∃ a, o = some a ∧ g a = x := Option.map_eq_some_iff.mp h
theorem rd_lit {K : PySem.W.Frag} {js : List Addr} {H : Hp} {l : Lit} {k : Const} (h : litM l k = true) : ∃ v, Rep K js H l.d v ∧ match k with | .none => v = V.non | .bool b => v = .bl b | .int i => v = .int i | .str x => v = .str x | _ => False := by
  cases l <;> cases k <;> first | exact absurd h Bool.false_ne_true | skip
  · exact ⟨_, .non, rfl⟩
  · rename_i a b
    have : a = b := by simpa [litM] using h
    subst this; exact ⟨_, .bl _, rfl⟩
  · rename_i a b
    have : a = b := by simpa [litM] using h
    subst this; exact ⟨_, .int _, rfl⟩
  · rename_i a b
    have : a = b := by simpa [litM] using h
    subst this; exact ⟨_, .str _, rfl⟩
theorem rd_fixed {K : PySem.W.Frag} {t : St} {H : Hp} {Q : VK} {d : D} {v : V} (w : ∀ js, Rep K js H d v) (h : tE K (fun _ M => .ok (d, M)) t H Q) : tC v t H Q := by
  obtain ⟨js, M, s, T, S, g⟩ := h
  exact g.ok .refl T (w js)
theorem pe_lit {X : Cx} {l : Lit} {k : Const} {j : Option Str} {pos : Pos} {kk} (h : litM l k = true) : PE X (.Constant k kk pos) (tE X.K fun _ M => .ok (l.d, M)) := by
  cases l <;> cases k <;> first | exact absurd h Bool.false_ne_true | skip
  · exact pe_weak pe_non fun s H Q q => rd_fixed (fun _ => .non) q
  · rename_i a b
    have : a = b := by simpa [litM] using h
    subst this; exact pe_weak pe_bl fun s H Q q => rd_fixed (fun _ => .bl _) q
  · rename_i a b
    have : a = b := by simpa [litM] using h
    subst this; exact pe_weak pe_int fun s H Q q => rd_fixed (fun _ => .int _) q
  · rename_i a b
    have : a = b := by simpa [litM] using h
    subst this; exact pe_weak pe_str fun s H Q q => rd_fixed (fun _ => .str _) q
theorem rd_var {K : PySem.W.Frag} {t : St} {H : Hp} {Q : VK} {i : Nat} (h : tE K (fun s M => match s[i]? with | some (some d) => .ok (d, M) | _ => .bad) t H Q) : tVar i t H Q := by
  obtain ⟨js, M, s, T, S, g⟩ := h
  have g : Go K (Rep K) js H (match s[i]? with | some (some d) => .ok (d, M) | _ => .bad) Q := g
  cases e : s[i]? with
  | none => rw [e] at g; exact g.bad
  | some o =>
    rw [e] at g
    cases o with
    | none => exact g.bad
    | some d =>
      obtain ⟨v, h1, h2⟩ := S.at_ i d e
      exact ⟨v, h1, g.ok .refl T h2⟩
theorem isi_ty {x : Str} {t : String} (h : x = Str.ofString t) (m : ["int", "bool", "str", "tuple", "list", "dict"].contains t = true) : bootBuiltins x = some (.type t) ∧ x ∈ bltNames ∧ x ≠ "__name__" ∧ (x == ("__debug__" : Str)) = false := by
  subst h
  simp only [List.contains_cons, List.contains_nil, Bool.or_false, Bool.or_eq_true, beq_iff_eq] at m
  rcases m with rfl | rfl | rfl | rfl | rfl | rfl <;> exact ⟨by decide +kernel, by decide +kernel, by decide +kernel, by decide +kernel⟩
theorem lam_lc {K : PySem.W.Frag} {set : D → Ev → Mem → R (Ev × Mem)} {cond : Ev → Mem → R (Bool × Mem)} {elt : Ev → Mem → RD} {ri : Ev → Mem → R (Src × Mem)} {own : List Nat} {N : List Str} {t : St} {H : Hp} {Q : VK}
    (h : tE K (fun s M => (ri s M).bind fun p => (compX p.1 set cond elt (wipeE s own) wf 0 p.2 []).bind fun q => newM q.2 (.lst q.1)) t H Q) :
    tLc (tI K ri) (fun v t H Q => gG K set v t H fun t2 H2 => L2.wipe t2 own = L2.wipe t own → Q t2 H2) (tT K cond) (tE K elt) ((own.map fun i => (N.getD i Str.empty, i)).map (·.2)) t H Q := by
  have : (own.map fun i => (N.getD i Str.empty, i)).map (·.2) = own := by rw [List.map_map]; exact List.map_id' own
  rw [this]
  exact lc_run h
theorem pt_tru {X : Cx} {a : Expr} {ta : TE} (ha : PE X a ta) (he : ∀ whole, isTrue a X.env whole = (do let v ← whole; standAt a.pos; holding [v] (truthy v))) :
    PT X a (fun t H Q => ta t H fun x H1 => ∃ js M d b, Tie X.K js H1 M ∧ Rep X.K js H1 d x ∧ truth M d = some b ∧ Q b H1) :=
  ⟨fun pins s σ H Q I h => PyProof.Rows.isTrue_plain (thn (ha.run pins s σ H _ I h) fun v s1 ⟨x, H1, I1, r1, q1⟩ => tru_any pins s1 σ H1 x v Q I1 r1 q1) (he _)⟩
theorem tv {c : Scope} {f : Str → Bool} {e : E} {x : Expr} (h : mT G N c f (.val e) x = true) : mE G N c f e x = true := by
  have h : ((noTst x || isCmp x) && mE G N c f e x) = true := h
  rw [Bool.and_eq_true] at h
  exact h.2
theorem ptv {c : Scope} {f : Str → Bool} {X : Cx} {e : E} {x : Expr} (pe : PE X x (tE X.K (ev G (callF G n) e))) (h : mT G N c f (.val e) x = true) (w : ∀ l o r p, x = .Compare l o r p → False) : PT X x (tT X.K fun s M => evT G (callF G n) (.val e) s M) := by
  have h : ((noTst x || isCmp x) && mE G N c f e x) = true := h
  rw [Bool.and_eq_true, Bool.or_eq_true] at h
  rcases h.1 with hn | hn
  · exact pt_weak (pt_tru pe (tst1 hn _)) fun s H Q q => rd_truth q
  · cases x with
    | Compare l o r p => exact (w l o r p rfl).elim
    | _ => exact absurd hn Bool.false_ne_true
mutual
theorem sE : ∀ (e : E) {c : Scope} {f : Str → Bool} {X : Cx} (k : Okx G N c f n X) (x : Expr), mE G N c f e x = true → PE X x (tE X.K (ev G (callF G n) e))
  | .var i, c, f, X, k, x, h => by
    cases x with
    | Name y p =>
      have h : (decide (N[i]? = some y) && visB c y && okN y) = true := h
      simp only [Bool.and_eq_true, decide_eq_true_eq] at h
      obtain ⟨⟨h1, h2⟩, h3⟩ := h
      obtain ⟨o1, o2, _⟩ := ok_of h3
      exact pe_weak (pe_var (k.ix h1) (k.vis h2) o1 o2) fun s H Q q => rd_var q
    | _ => exact absurd h Bool.false_ne_true
  | .lit l, c, f, X, k, x, h => by
    cases x with
    | Constant z j p => exact pe_lit (j := none) (show litM l z = true from h)
    | _ => exact absurd h Bool.false_ne_true
  | .glob g, c, f, X, k, x, h => by
    cases x with
    | Name y p =>
      have h : (decide ((G.con[g]?).map (·.1) = some y) && glbB c y && okN y) = true := h
      simp only [Bool.and_eq_true, decide_eq_true_eq] at h
      obtain ⟨⟨h1, h2⟩, h3⟩ := h
      obtain ⟨⟨y', d⟩, e1, e2⟩ := map_name h1
      have e2 : y' = y := e2
      subst e2
      obtain ⟨u, v, m1, m2, m3⟩ := k.md.con g _ e1
      refine pe_weak (pe_glob (k.gl h2) m1 m2 (ok_of h3).1) fun s H Q ⟨js, M, s', T, S, q⟩ => ?_
      have q : Go X.K (Rep X.K) js H (match G.con[g]? with | some p => .ok (p.2, M) | none => .bad) Q := q
      rw [e1] at q
      exact q.ok .refl T (m3 js H)
    | _ => exact absurd h Bool.false_ne_true
  | .bin o a b, c, f, X, k, x, h => by
    cases x with
    | BinOp l op r p =>
      have h : (decide (o.py = op) && mE G N c f a l && mE G N c f b r) = true := h
      simp only [Bool.and_eq_true, decide_eq_true_eq] at h
      obtain ⟨⟨h1, h2⟩, h3⟩ := h
      subst h1
      exact pe_weak (pe_op (op_bin o) (sE a k l h2) (sE b k r h3)) fun s H Q q => two_parts (f := fun M d e => binD M o d e) q
    | _ => exact absurd h Bool.false_ne_true
  | .neg a, c, f, X, k, x, h => by
    cases x with
    | UnaryOp op y p =>
      cases op with
      | USub =>
        have h : mE G N c f a y = true := h
        exact pe_weak (pe_un un_neg (sE a k y h)) fun s H Q q => rd_neg q
      | _ => exact absurd h Bool.false_ne_true
    | _ => exact absurd h Bool.false_ne_true
  | .not a, c, f, X, k, x, h => by
    cases x with
    | UnaryOp op y p =>
      cases op with
      | Not =>
        have h : mE G N c f a y = true := h
        exact pe_weak (L2.pe_not (sE a k y h)) fun s H Q q => rd_not q
      | _ => exact absurd h Bool.false_ne_true
    | _ => exact absurd h Bool.false_ne_true
  | .bool z es, c, f, X, k, x, h => by
    cases x with
    | BoolOp op vs p =>
      have h : (decide (op = if z then .And else .Or) && !vs.isEmpty && mEs G N c f es vs) = true := h
      simp only [Bool.and_eq_true, decide_eq_true_eq, Bool.not_eq_true'] at h
      obtain ⟨⟨h1, h2⟩, h3⟩ := h
      subst h1
      exact sV es k z vs h2 h3
    | _ => exact absurd h Bool.false_ne_true
  | .cmp z a b, c, f, X, k, x, h => by
    cases x with
    | Compare l ops rs p =>
      cases ops with
      | nil => exact absurd h Bool.false_ne_true
      | cons op ops =>
        cases ops with
        | cons _ _ => exact absurd h Bool.false_ne_true
        | nil =>
          cases rs with
          | nil => exact absurd h Bool.false_ne_true
          | cons r rs =>
            cases rs with
            | cons _ _ => exact absurd h Bool.false_ne_true
            | nil =>
              have h : (decide (z.py = op) && noSet r && mE G N c f a l && mE G N c f b r) = true := h
              simp only [Bool.and_eq_true, decide_eq_true_eq] at h
              obtain ⟨⟨⟨h1, h2⟩, h3⟩, h4⟩ := h
              subst h1
              exact pe_weak (pe_cmpR (cmp_rd k.u65 z) (sE a k l h3) (sE b k r h4) (noMark h2 _)) fun s H Q q => two_parts (f := fun M d e => R.of (cmpD M z d e) fun k => .ok (.bl k, M)) q
    | _ => exact absurd h Bool.false_ne_true
  | .chain z1 z2 a b d, c, f, X, k, x, h => by
    cases x with
    | Compare l ops rs p =>
      cases ops with
      | nil => exact absurd h Bool.false_ne_true
      | cons op ops =>
        cases ops with
        | nil => exact absurd h Bool.false_ne_true
        | cons op2 ops =>
          cases ops with
          | cons _ _ => exact absurd h Bool.false_ne_true
          | nil =>
            cases rs with
            | nil => exact absurd h Bool.false_ne_true
            | cons r rs =>
              cases rs with
              | nil => exact absurd h Bool.false_ne_true
              | cons r2 rs =>
                cases rs with
                | cons _ _ => exact absurd h Bool.false_ne_true
                | nil =>
                  have h : (decide (z1.py = op) && decide (z2.py = op2) && noSet r && noSet r2 && mE G N c f a l && mE G N c f b r && mE G N c f d r2) = true := h
                  simp only [Bool.and_eq_true, decide_eq_true_eq] at h
                  obtain ⟨⟨⟨⟨⟨⟨h1, h2⟩, h3⟩, h4⟩, h5⟩, h6⟩, h7⟩ := h
                  subst h1 h2
                  exact pe_weak (pe_chain (op_cmp k.u65 z1) (op_cmp k.u65 z2) (sE a k l h5) (sE b k r h6) (sE d k r2 h7) (noMark h4 _)) fun s H Q q => rd_chain q
    | _ => exact absurd h Bool.false_ne_true
  | .ite t a b, c, f, X, k, x, h => by
    cases x with
    | IfExp y u v p =>
      have h : (mT G N c f t y && mE G N c f a u && mE G N c f b v) = true := h
      simp only [Bool.and_eq_true] at h
      exact pe_weak (pe_ifExp (sT t k y h.1.1) (sE a k u h.1.2) (sE b k v h.2)) fun s H Q q => rd_ite q
    | _ => exact absurd h Bool.false_ne_true
  | .tup es, c, f, X, k, x, h => by
    cases x with
    | Tuple xs j p =>
      have h : mEs G N c f es xs = true := h
      exact pe_weak (pe_tup (sEs es k xs h)) fun s H Q q => rd_tup q
    | _ => exact absurd h Bool.false_ne_true
  | .lst es, c, f, X, k, x, h => by
    cases x with
    | List xs p =>
      have h : mEs G N c f es xs = true := h
      exact pe_weak (pe_lst (sEs es k xs h)) fun s H Q q => rd_lst q
    | _ => exact absurd h Bool.false_ne_true
  | .dic ps, c, f, X, k, x, h => by
    cases x with
    | Dict ks vs p =>
      have h : (!ks.isEmpty && decide (ks.length = vs.length) && decide (ks.length ≤ 15) && mPs G N c f ps ks vs) = true := h
      simp only [Bool.and_eq_true, decide_eq_true_eq, Bool.not_eq_true'] at h
      obtain ⟨⟨⟨h1, h2⟩, h3⟩, h4⟩ := h
      obtain ⟨trs, hp, hall, w⟩ := sPs ps k p ks vs h4
      exact pe_weak (pe_disp hp hall h2 (fun e => by rw [e] at h1; cases h1) h3) fun s H Q q => rd_dic w q
    | _ => exact absurd h Bool.false_ne_true
  | .idx a b, c, f, X, k, x, h => by
    cases x with
    | Subscript y z p =>
      have h : (noSl z && mE G N c f a y && mE G N c f b z) = true := h
      simp only [Bool.and_eq_true] at h
      exact pe_weak (pe_ix (idx_rd k.u1) (sE a k y h.1.2) (sE b k z h.2) (plainIx h.1.1)) fun s H Q q => two_parts (f := fun M d e => R.of (idxD M d e) fun r => .ok (r, M)) q
    | _ => exact absurd h Bool.false_ne_true
  | .slc a lo hi, c, f, X, k, x, h => by
    cases x with
    | Subscript y z p =>
      cases z with
      | Slice l u st q =>
        cases st with
        | some _ => exact absurd h Bool.false_ne_true
        | none =>
          have h : (mE G N c f a y && mO G N c f lo l && mO G N c f hi u) = true := h
          simp only [Bool.and_eq_true] at h
          exact pe_weak (pe_slice sl_any (sE a k y h.1.1) (sO lo k l h.1.2) (sO hi k u h.2)) fun s H Q q => rd_slc q
      | _ => exact absurd h Bool.false_ne_true
    | _ => exact absurd h Bool.false_ne_true
  | .rev a, c, f, X, k, x, h => by
    cases x with
    | Subscript y z p =>
      cases z with
      | Slice l u st q =>
        cases l with
        | some _ => exact absurd h Bool.false_ne_true
        | none =>
          cases u with
          | some _ => exact absurd h Bool.false_ne_true
          | none =>
            cases st with
            | none => exact absurd h Bool.false_ne_true
            | some st =>
              cases st with
              | UnaryOp op w p2 =>
                cases op with
                | USub =>
                  cases w with
                  | Constant kk j p3 =>
                    cases kk with
                    | int i =>
                      have h : (decide (i = 1) && mE G N c f a y) = true := h
                      simp only [Bool.and_eq_true, decide_eq_true_eq] at h
                      obtain ⟨h1, h2⟩ := h
                      subst h1
                      exact pe_weak (pe_rev (sE a k y h2)) fun s H Q q => rd_rev q
                    | _ => exact absurd h Bool.false_ne_true
                  | _ => exact absurd h Bool.false_ne_true
                | _ => exact absurd h Bool.false_ne_true
              | _ => exact absurd h Bool.false_ne_true
      | _ => exact absurd h Bool.false_ne_true
    | _ => exact absurd h Bool.false_ne_true
  | .call g es, c, f, X, k, x, h => by
    cases x with
    | Call fn xs kws p =>
      cases fn with
      | Name y q =>
        cases kws with
        | cons _ _ => exact absurd h Bool.false_ne_true
        | nil =>
          have h : (decide ((G.fns[g]?).map (·.name) = some y) && glbB c y && okN y && mEs G N c f es xs) = true := h
          simp only [Bool.and_eq_true, decide_eq_true_eq] at h
          obtain ⟨⟨⟨h1, h2⟩, h3⟩, h4⟩ := h
          obtain ⟨D, e1, e2⟩ := map_name h1
          subst e2
          obtain ⟨a, fd, m1, m2, m3, m4⟩ := k.md.fn g D e1
          have pa := sEs es k xs h4
          have st := star_all (env := X.env) h4
          cases xs with
          | nil =>
            cases es with
            | cons _ _ => exact absurd h4 Bool.false_ne_true
            | nil =>
              refine pe_weak (pe_callG0 m4 k.gd k.room (k.gl h2) m1 m2 m3 (ok_of h3).1) fun s H Q ⟨js, M, s', T, S, d, M2, e, w⟩ => ?_
              exact ⟨js, M, [], T, .nil, callF_len e, d, M2, e, w⟩
          | cons x0 xs =>
            refine pe_weak (pe_callG m4 k.gd k.room (k.gl h2) m1 m2 m3 pa (ok_of h3).1 ?_ ?_) fun s H Q q => ?_
            · cases es with
              | nil => exact absurd h4 Bool.false_ne_true
              | cons _ _ =>
                have h4 : (noStar x0 && _ && _) = true := h4
                simp only [Bool.and_eq_true] at h4
                exact star1 h4.1.1 _ _
            · cases es with
              | nil => exact absurd h4 Bool.false_ne_true
              | cons _ es =>
                have h4 : (noStar x0 && _ && mEs G N c f es xs) = true := h4
                simp only [Bool.and_eq_true] at h4
                rw [star_all h4.2]
                exact any_back _
            · have := rd_arg (f := fun M ds => callF G n g ds M) q
              obtain ⟨js, M, s', T, S, q'⟩ := this
              refine ⟨js, M, s', T, S, q'.mono fun vs H1 ⟨js1, M1, ds, T1, r1, d, M2, e, w⟩ => ⟨js1, M1, ds, T1, r1, callF_len e, d, M2, e, w⟩⟩
      | _ => exact absurd h Bool.false_ne_true
    | _ => exact absurd h Bool.false_ne_true
  | .bi b es, c, f, X, k, x, h => by
    cases x with
    | Call fn xs kws p =>
      cases fn with
      | Name y q =>
        cases kws with
        | cons _ _ => exact absurd h Bool.false_ne_true
        | nil =>
          have h : (decide (b.nm = y) && glbB c y && !xs.isEmpty && mEs G N c f es xs) = true := h
          simp only [Bool.and_eq_true, decide_eq_true_eq, Bool.not_eq_true'] at h
          obtain ⟨⟨⟨h1, h2⟩, h3⟩, h4⟩ := h
          subst h1
          have pa := sEs es k xs h4
          cases xs with
          | nil => cases h3
          | cons x0 xs =>
            cases es with
            | nil => exact absurd h4 Bool.false_ne_true
            | cons e0 es =>
              have h4 : (noStar x0 && mE G N c f e0 x0 && mEs G N c f es xs) = true := h4
              simp only [Bool.and_eq_true] at h4
              refine pe_weak (pe_callV (bi_ok k.u66 k.gd k.calm b) (k.gl h2) (k.md.blt _ (bi_in b)) pa (star1 h4.1.1 _ _) (by rw [star_all h4.2]; exact any_back _)) fun s H Q q => ?_
              exact rd_arg (f := fun M ds => biD M b ds) q
      | _ => exact absurd h Bool.false_ne_true
    | _ => exact absurd h Bool.false_ne_true
  | .isi a t, c, f, X, k, x, h => by
    cases x with
    | Call fn xs kws p =>
      cases fn with
      | Name y q =>
        cases xs with
        | nil => exact absurd h Bool.false_ne_true
        | cons a1 xs =>
          cases xs with
          | nil => exact absurd h Bool.false_ne_true
          | cons a2 xs =>
            cases a2 with
            | Name z pz =>
              cases xs with
              | cons _ _ => exact absurd h Bool.false_ne_true
              | nil =>
                cases kws with
                | cons _ _ => exact absurd h Bool.false_ne_true
                | nil =>
                  have h : (decide (y = "isinstance") && glbB c y && glbB c z && decide (z = Str.ofString t) && ["int", "bool", "str", "tuple", "list", "dict"].contains t && noStar a1 && mE G N c f a a1) = true := h
                  simp only [Bool.and_eq_true, decide_eq_true_eq] at h
                  obtain ⟨⟨⟨⟨⟨⟨h1, h2⟩, h3⟩, h4⟩, h5⟩, h6⟩, h7⟩ := h
                  subst h1
                  obtain ⟨b1, b2, b3, b4⟩ := isi_ty h4 h5
                  have pz : PE X (.Name z pz) (tC (.ty t)) := pe_bltn (k.gl h3) (k.md.blt _ b2) b1 rfl b3 b4
                  refine pe_weak (pe_callB call_isi (k.gl h2) (k.md.blt _ (by decide)) (by decide +kernel) (pa_cons (sE a k a1 h7) (pa_cons pz pa_nil rfl) (star1 h6 _ _)) (by decide) (by decide) (star1 h6 _ _) rfl) fun s H Q q => rd_isi q
            | _ => exact absurd h Bool.false_ne_true
      | _ => exact absurd h Bool.false_ne_true
    | _ => exact absurd h Bool.false_ne_true
  | .meth m o es, c, f, X, k, x, h => by
    cases x with
    | Call fn xs kws cpos =>
      cases fn with
      | Attribute y nm apos =>
        cases kws with
        | cons _ _ => exact absurd h Bool.false_ne_true
        | nil =>
          have h : (decide (m.nm = nm) && decide (apos.endLine = cpos.line) && noBase y && decide (xs.length < 29) && mE G N c f o y && mEs G N c f es xs) = true := h
          simp only [Bool.and_eq_true, decide_eq_true_eq] at h
          obtain ⟨⟨⟨⟨⟨h1, h2⟩, h3⟩, h4⟩, h5⟩, h6⟩ := h
          subst h1
          refine pe_methV k.u1 m (sE o k y h5) (sEs es k xs h6) (fun e s M => ?_) (base1 h3 _ _) h4 (by rw [h2]; exact beq_self_eq_true _) (star_all h6)
          subst e
          cases es with
          | nil => rfl
          | cons _ _ => exact absurd h6 Bool.false_ne_true
      | _ => exact absurd h Bool.false_ne_true
    | _ => exact absurd h Bool.false_ne_true
  | .lc elt t it cond own, c, f, X, k, x, h => by
    cases x with
    | ListComp y gs scope p =>
      cases gs with
      | nil => exact absurd h Bool.false_ne_true
      | cons g gs =>
        obtain ⟨tg, iter, ifs, kk⟩ := g
        cases gs with
        | cons _ _ => exact absurd h Bool.false_ne_true
        | nil =>
          have h : (decide (kk = 0) && noSet iter && t.names.all own.contains && blkC N c scope (own.map fun i => (N.getD i Str.empty, i)) && mI G N c f it iter &&
            mG G N (relS scope c) (fun x => scope.names.lookup x == some .cell) t tg && mIfs G N (relS scope c) (fun x => scope.names.lookup x == some .cell) cond ifs && mE G N (relS scope c) (fun x => scope.names.lookup x == some .cell) elt y) = true := h
          simp only [Bool.and_eq_true, decide_eq_true_eq] at h
          obtain ⟨⟨⟨⟨⟨⟨⟨h1, h2⟩, h3⟩, h4⟩, h5⟩, h6⟩, h7⟩, h8⟩ := h
          subst h1
          have ok : BlkOk X.N X.env.scope scope (own.map fun i => (N.getD i Str.empty, i)) := by rw [k.hN, k.sc]; exact blkOk_by h4
          refine pe_weak (pe_lc k.calm k.nod (sI it k iter tg h5) ok (fun s H C cl fp => sG t (k.blk scope s H C cl fp) own h3 tg h6) (fun s H C cl fp => sIf cond (k.blk scope s H C cl fp) ifs h7)
            (fun s H C cl fp => sE elt (k.blk scope s H C cl fp) y h8) (noSet1 h2 _)) fun s H Q q => lam_lc (N := N) q
    | _ => exact absurd h Bool.false_ne_true
  | .trg a, c, f, X, k, x, h => by
    cases x with
    | Call fn xs kws p =>
      cases fn with
      | Name y q =>
        cases xs with
        | nil => exact absurd h Bool.false_ne_true
        | cons x1 xs =>
          cases x1 with
          | Call fn2 ys kws2 p2 =>
            cases fn2 with
            | Name z q2 =>
              cases ys with
              | nil => exact absurd h Bool.false_ne_true
              | cons y1 ys =>
                cases ys with
                | cons _ _ => exact absurd h Bool.false_ne_true
                | nil =>
                  cases kws2 with
                  | cons _ _ => exact absurd h Bool.false_ne_true
                  | nil =>
                    cases xs with
                    | cons _ _ => exact absurd h Bool.false_ne_true
                    | nil =>
                      cases kws with
                      | cons _ _ => exact absurd h Bool.false_ne_true
                      | nil =>
                        have h : (decide (y = "tuple") && decide (z = "range") && glbB c y && glbB c z && noStar y1 && mE G N c f a y1) = true := h
                        simp only [Bool.and_eq_true, decide_eq_true_eq] at h
                        obtain ⟨⟨⟨⟨⟨h1, h2⟩, h3⟩, h4⟩, h5⟩, h6⟩ := h
                        subst h1 h2
                        exact pe_weak (pe_tupRg k.calm (k.gl h3) (k.md.blt _ (by decide)) (prg_1 (k.gl h4) (k.md.blt _ (by decide)) (sE a k y1 h6) (star1 h5 _ _)) rfl) fun s H Q q => rd_trg q
            | _ => exact absurd h Bool.false_ne_true
          | _ => exact absurd h Bool.false_ne_true
      | _ => exact absurd h Bool.false_ne_true
    | _ => exact absurd h Bool.false_ne_true
  | .lrg a, c, f, X, k, x, h => by
    cases x with
    | Call fn xs kws p =>
      cases fn with
      | Name y q =>
        cases xs with
        | nil => exact absurd h Bool.false_ne_true
        | cons x1 xs =>
          cases x1 with
          | Call fn2 ys kws2 p2 =>
            cases fn2 with
            | Name z q2 =>
              cases ys with
              | nil => exact absurd h Bool.false_ne_true
              | cons y1 ys =>
                cases ys with
                | cons _ _ => exact absurd h Bool.false_ne_true
                | nil =>
                  cases kws2 with
                  | cons _ _ => exact absurd h Bool.false_ne_true
                  | nil =>
                    cases xs with
                    | cons _ _ => exact absurd h Bool.false_ne_true
                    | nil =>
                      cases kws with
                      | cons _ _ => exact absurd h Bool.false_ne_true
                      | nil =>
                        have h : (decide (y = "list") && decide (z = "range") && glbB c y && glbB c z && noStar y1 && mE G N c f a y1) = true := h
                        simp only [Bool.and_eq_true, decide_eq_true_eq] at h
                        obtain ⟨⟨⟨⟨⟨h1, h2⟩, h3⟩, h4⟩, h5⟩, h6⟩ := h
                        subst h1 h2
                        exact pe_weak (pe_listRg k.calm (k.gl h3) (k.md.blt _ (by decide)) (prg_1 (k.gl h4) (k.md.blt _ (by decide)) (sE a k y1 h6) (star1 h5 _ _)) rfl) fun s H Q q => rd_lrg q
            | _ => exact absurd h Bool.false_ne_true
          | _ => exact absurd h Bool.false_ne_true
      | _ => exact absurd h Bool.false_ne_true
    | _ => exact absurd h Bool.false_ne_true
theorem sEs : ∀ (es : Es) {c : Scope} {f : Str → Bool} {X : Cx} (k : Okx G N c f n X) (xs : List Expr), mEs G N c f es xs = true → PA X xs (tA X.K (evs G (callF G n) es))
  | .nil, c, f, X, k, [], h => pa_weak pa_nil fun s H Q q => rd_nil q
  | .nil, c, f, X, k, _ :: _, h => absurd h Bool.false_ne_true
  | .cons _ _, c, f, X, k, [], h => absurd h Bool.false_ne_true
  | .cons e es, c, f, X, k, x :: xs, h => by
    have h : (noStar x && mE G N c f e x && mEs G N c f es xs) = true := h
    simp only [Bool.and_eq_true] at h
    exact pa_weak (pa_cons (sE e k x h.1.2) (sEs es k xs h.2) (star1 h.1.1 _ _)) fun s H Q q => rd_cons q
theorem sV : ∀ (es : Es) {c : Scope} {f : Str → Bool} {X : Cx} (k : Okx G N c f n X) (z : Bool) (xs : List Expr) {p : Pos}, xs.isEmpty = false → mEs G N c f es xs = true → PE X (.BoolOp (if z = true then .And else .Or) xs p) (tE X.K fun s M => evV G (callF G n) es z s M)
  | _, c, f, X, k, z, [], _, h, _ => absurd h (by decide)
  | .nil, c, f, X, k, z, _ :: _, _, _, h => absurd h Bool.false_ne_true
  | .cons e .nil, c, f, X, k, z, [x], p, _, h => by
    have h : (noStar x && mE G N c f e x && true) = true := h
    simp only [Bool.and_eq_true] at h
    exact pe_weak (pe_one (sE e k x h.1.2)) fun s H Q q => rd_one (c := z) q
  | .cons e (.cons _ _), c, f, X, k, z, [x], p, _, h => by
    have h : (noStar x && mE G N c f e x && false) = true := h
    rw [Bool.and_false] at h
    cases h
  | .cons e es, c, f, X, k, z, x :: y :: xs, p, _, h => by
    have h : (noStar x && mE G N c f e x && mEs G N c f es (y :: xs)) = true := h
    simp only [Bool.and_eq_true] at h
    have h2 := sV es k z (y :: xs) (p := p) rfl h.2
    cases z with
    | true => exact pe_weak (L2.pe_and (sE e k x h.1.2) h2) fun s H Q q => rd_and q
    | false => exact pe_weak (L2.pe_or (sE e k x h.1.2) h2) fun s H Q q => rd_or q
theorem sPs : ∀ (ps : Ps) {c : Scope} {f : Str → Bool} {X : Cx} (k : Okx G N c f n X) (p : Pos) (ks : List (Option Expr)) (vs : List Expr), mPs G N c f ps ks vs = true →
    ∃ trs, PPs X p ks vs trs ∧ ks.all (·.isSome) = true ∧ ∀ {t : St} {js : List Addr} {M : Mem} {s : Ev} {H : Hp} {Q : List (V × V) → Hp → Prop}, Tie X.K js H M → RepS X.K js H s t → Go X.K (RepPs X.K) js H (evp G (callF G n) ps s M) Q → tPairs trs t H Q
  | .nil, c, f, X, k, p, ks, vs, h => by
    cases ks with
    | cons _ _ => exact absurd h (by cases vs <;> exact Bool.false_ne_true)
    | nil =>
      cases vs with
      | cons _ _ => exact absurd h Bool.false_ne_true
      | nil => exact ⟨[], pps_nil, rfl, fun {t js M s H Q} T S g => Go.ok g .refl T ⟨.nil, .nil⟩⟩
  | .cons a b ps, c, f, X, k, p, ks, vs, h => by
    cases ks with
    | nil => exact absurd h Bool.false_ne_true
    | cons x ks =>
      cases x with
      | none => exact absurd h Bool.false_ne_true
      | some x =>
        cases vs with
        | nil => exact absurd h Bool.false_ne_true
        | cons y vs =>
          have h : (mE G N c f a x && mE G N c f b y && mPs G N c f ps ks vs) = true := h
          simp only [Bool.and_eq_true] at h
          obtain ⟨trs, h1, h2, h3⟩ := sPs ps k p ks vs h.2
          refine ⟨_, pps_cons (sE a k x h.1.1) (sE b k y h.1.2) h1, by rw [List.all_cons, h2]; rfl, fun {t js M s H Q} T S g => ?_⟩
          have g : Go X.K (RepPs X.K) js H ((ev G (callF G n) a s M).bind fun p => (ev G (callF G n) b s p.2).bind fun q => (evp G (callF G n) ps s q.2).bind fun r => .ok ((p.1, q.1) :: r.1, r.2)) Q := g
          refine ⟨js, M, s, T, S, g.bind.mono ?_⟩
          rintro u H1 ⟨js1, M1, d, T1, x1, r1, g1⟩
          refine ⟨js1, M1, s, T1, S.ext T x1, g1.bind.mono ?_⟩
          rintro w H2 ⟨js2, M2, e, T2, x2, r2, g2⟩
          refine h3 T2 ((S.ext T x1).ext T1 x2) (g2.bind.mono ?_)
          rintro ps' H3 ⟨js3, M3, l, T3, x3, r3, g3⟩
          exact Go.ok g3 .refl T3 ⟨.cons ((r1.ext T1 x2).ext T2 x3) r3.1, .cons (r2.ext T2 x3) r3.2⟩
theorem sT : ∀ (e : T) {c : Scope} {f : Str → Bool} {X : Cx} (k : Okx G N c f n X) (x : Expr), mT G N c f e x = true → PT X x (tT X.K fun s M => evT G (callF G n) e s M)
  | .not t, c, f, X, k, x, h => by
    cases x with
    | UnaryOp op y p =>
      cases op with
      | Not =>
        have h : mT G N c f t y = true := h
        exact pt_weak (pt_not (sT t k y h)) fun s H Q q => rd_tnot q
      | _ => exact absurd h Bool.false_ne_true
    | _ => exact absurd h Bool.false_ne_true
  | .bool z ts, c, f, X, k, x, h => by
    cases x with
    | BoolOp op vs p =>
      have h : (decide (op = if z then .And else .Or) && !vs.isEmpty && mTs G N c f ts vs) = true := h
      simp only [Bool.and_eq_true, decide_eq_true_eq, Bool.not_eq_true'] at h
      obtain ⟨⟨h1, h2⟩, h3⟩ := h
      subst h1
      exact (sTs ts k z vs h2 h3).pt
    | _ => exact absurd h Bool.false_ne_true
  | .val (.cmp z a b), c, f, X, k, x, h => by
    have h : ((noTst x || isCmp x) && mE G N c f (.cmp z a b) x) = true := h
    rw [Bool.and_eq_true] at h
    obtain ⟨_, h⟩ := h
    cases x with
    | Compare l ops rs p =>
      cases ops with
      | nil => exact absurd h Bool.false_ne_true
      | cons op ops =>
        cases ops with
        | cons _ _ => exact absurd h Bool.false_ne_true
        | nil =>
          cases rs with
          | nil => exact absurd h Bool.false_ne_true
          | cons r rs =>
            cases rs with
            | cons _ _ => exact absurd h Bool.false_ne_true
            | nil =>
              have h : (decide (z.py = op) && noSet r && mE G N c f a l && mE G N c f b r) = true := h
              simp only [Bool.and_eq_true, decide_eq_true_eq] at h
              obtain ⟨⟨⟨h1, h2⟩, h3⟩, h4⟩ := h
              subst h1
              refine pt_weak (pt_cmpR (cmp_rd k.u65 z) (sE a k l h3) (sE b k r h4) (noMark h2 _)) fun s H Q q => rd_test (ra := ev G (callF G n) (.cmp z a b)) (fun Q' q => two_parts (f := fun M d e => R.of (cmpD M z d e) fun k => .ok (.bl k, M)) q) (fun s M d M' e => ?_) q
              obtain ⟨_, _, e⟩ := bind_ok e
              obtain ⟨_, _, e⟩ := bind_ok e
              obtain ⟨b, _, e⟩ := of_ok e
              cases e
              exact ⟨b, rfl⟩
    | _ => exact absurd h Bool.false_ne_true
  | .val (.chain z1 z2 a b d), c, f, X, k, x, h => by
    have h : ((noTst x || isCmp x) && mE G N c f (.chain z1 z2 a b d) x) = true := h
    rw [Bool.and_eq_true] at h
    obtain ⟨_, h⟩ := h
    cases x with
    | Compare l ops rs p =>
      cases ops with
      | nil => exact absurd h Bool.false_ne_true
      | cons op ops =>
        cases ops with
        | nil => exact absurd h Bool.false_ne_true
        | cons op2 ops =>
          cases ops with
          | cons _ _ => exact absurd h Bool.false_ne_true
          | nil =>
            cases rs with
            | nil => exact absurd h Bool.false_ne_true
            | cons r rs =>
              cases rs with
              | nil => exact absurd h Bool.false_ne_true
              | cons r2 rs =>
                cases rs with
                | cons _ _ => exact absurd h Bool.false_ne_true
                | nil =>
                  have h : (decide (z1.py = op) && decide (z2.py = op2) && noSet r && noSet r2 && mE G N c f a l && mE G N c f b r && mE G N c f d r2) = true := h
                  simp only [Bool.and_eq_true, decide_eq_true_eq] at h
                  obtain ⟨⟨⟨⟨⟨⟨h1, h2⟩, h3⟩, h4⟩, h5⟩, h6⟩, h7⟩ := h
                  subst h1 h2
                  refine pt_weak (pt_chain (op_cmp k.u65 z1) (op_cmp k.u65 z2) (sE a k l h5) (sE b k r h6) (sE d k r2 h7) (noMark h4 _)) fun s H Q q => rd_test (ra := ev G (callF G n) (.chain z1 z2 a b d)) (fun Q' q => rd_chain q) (fun s M d' M' e => ?_) q
                  obtain ⟨p1, _, e⟩ := bind_ok e
                  obtain ⟨p2, _, e⟩ := bind_ok e
                  obtain ⟨w, _, e⟩ := of_ok e
                  cases w with
                  | true =>
                    obtain ⟨p3, _, e⟩ := bind_ok e
                    obtain ⟨w, _, e⟩ := of_ok e
                    cases e
                    exact ⟨_, rfl⟩
                  | false => cases e; exact ⟨_, rfl⟩
    | _ => exact absurd h Bool.false_ne_true
  | .val (.var i), c, f, X, k, x, h => ptv (sE (.var i) k x (tv h)) h fun l o r p e => by subst e; exact absurd (tv h) Bool.false_ne_true
  | .val (.lit l), c, f, X, k, x, h => ptv (sE (.lit l) k x (tv h)) h fun l o r p e => by subst e; exact absurd (tv h) Bool.false_ne_true
  | .val (.glob g), c, f, X, k, x, h => ptv (sE (.glob g) k x (tv h)) h fun l o r p e => by subst e; exact absurd (tv h) Bool.false_ne_true
  | .val (.bin o a b), c, f, X, k, x, h => ptv (sE (.bin o a b) k x (tv h)) h fun l o r p e => by subst e; exact absurd (tv h) Bool.false_ne_true
  | .val (.neg a), c, f, X, k, x, h => ptv (sE (.neg a) k x (tv h)) h fun l o r p e => by subst e; exact absurd (tv h) Bool.false_ne_true
  | .val (.not a), c, f, X, k, x, h => ptv (sE (.not a) k x (tv h)) h fun l o r p e => by subst e; exact absurd (tv h) Bool.false_ne_true
  | .val (.bool z es), c, f, X, k, x, h => ptv (sE (.bool z es) k x (tv h)) h fun l o r p e => by subst e; exact absurd (tv h) Bool.false_ne_true
  | .val (.ite t a b), c, f, X, k, x, h => ptv (sE (.ite t a b) k x (tv h)) h fun l o r p e => by subst e; exact absurd (tv h) Bool.false_ne_true
  | .val (.tup es), c, f, X, k, x, h => ptv (sE (.tup es) k x (tv h)) h fun l o r p e => by subst e; exact absurd (tv h) Bool.false_ne_true
  | .val (.lst es), c, f, X, k, x, h => ptv (sE (.lst es) k x (tv h)) h fun l o r p e => by subst e; exact absurd (tv h) Bool.false_ne_true
  | .val (.dic ps), c, f, X, k, x, h => ptv (sE (.dic ps) k x (tv h)) h fun l o r p e => by subst e; exact absurd (tv h) Bool.false_ne_true
  | .val (.idx a b), c, f, X, k, x, h => ptv (sE (.idx a b) k x (tv h)) h fun l o r p e => by subst e; exact absurd (tv h) Bool.false_ne_true
  | .val (.slc a lo hi), c, f, X, k, x, h => ptv (sE (.slc a lo hi) k x (tv h)) h fun l o r p e => by subst e; exact absurd (tv h) Bool.false_ne_true
  | .val (.rev a), c, f, X, k, x, h => ptv (sE (.rev a) k x (tv h)) h fun l o r p e => by subst e; exact absurd (tv h) Bool.false_ne_true
  | .val (.call g es), c, f, X, k, x, h => ptv (sE (.call g es) k x (tv h)) h fun l o r p e => by subst e; exact absurd (tv h) Bool.false_ne_true
  | .val (.bi b es), c, f, X, k, x, h => ptv (sE (.bi b es) k x (tv h)) h fun l o r p e => by subst e; exact absurd (tv h) Bool.false_ne_true
  | .val (.isi a t), c, f, X, k, x, h => ptv (sE (.isi a t) k x (tv h)) h fun l o r p e => by subst e; exact absurd (tv h) Bool.false_ne_true
  | .val (.meth m o es), c, f, X, k, x, h => ptv (sE (.meth m o es) k x (tv h)) h fun l o r p e => by subst e; exact absurd (tv h) Bool.false_ne_true
  | .val (.lc elt t it cond own), c, f, X, k, x, h => ptv (sE (.lc elt t it cond own) k x (tv h)) h fun l o r p e => by subst e; exact absurd (tv h) Bool.false_ne_true
  | .val (.trg a), c, f, X, k, x, h => ptv (sE (.trg a) k x (tv h)) h fun l o r p e => by subst e; exact absurd (tv h) Bool.false_ne_true
  | .val (.lrg a), c, f, X, k, x, h => ptv (sE (.lrg a) k x (tv h)) h fun l o r p e => by subst e; exact absurd (tv h) Bool.false_ne_true
theorem sTs : ∀ (es : Ts) {c : Scope} {f : Str → Bool} {X : Cx} (k : Okx G N c f n X) (z : Bool) (xs : List Expr) {p : Pos}, xs.isEmpty = false → mTs G N c f es xs = true → PW X (.BoolOp (if z = true then .And else .Or) xs p) (tT X.K fun s M => evTs G (callF G n) es z s M)
  | _, c, f, X, k, z, [], _, h, _ => absurd h (by decide)
  | .nil, c, f, X, k, z, _ :: _, _, _, h => absurd h Bool.false_ne_true
  | .cons e .nil, c, f, X, k, z, [x], p, _, h => by
    have h : (mT G N c f e x && true) = true := h
    simp only [Bool.and_eq_true] at h
    cases z with
    | true => exact pw_weak (pw_and1 (sT e k x h.1)) fun s H Q q => rd_t1 (c := true) q
    | false => exact pw_weak (pw_or1 (sT e k x h.1)) fun s H Q q => rd_t1 (c := false) q
  | .cons e (.cons _ _), c, f, X, k, z, [x], p, _, h => by
    have h : (mT G N c f e x && false) = true := h
    rw [Bool.and_false] at h
    cases h
  | .cons e es, c, f, X, k, z, x :: y :: xs, p, _, h => by
    have h : (mT G N c f e x && mTs G N c f es (y :: xs)) = true := h
    simp only [Bool.and_eq_true] at h
    have h2 := sTs es k z (y :: xs) (p := p) rfl h.2
    cases z with
    | true => exact pw_weak (pw_and (sT e k x h.1) h2) fun s H Q q => rd_tand q
    | false => exact pw_weak (pw_or (sT e k x h.1) h2) fun s H Q q => rd_tor q
theorem sIf : ∀ (es : Ts) {c : Scope} {f : Str → Bool} {X : Cx} (k : Okx G N c f n X) (xs : List Expr), mIfs G N c f es xs = true → PTs X xs (tT X.K fun s M => evTs G (callF G n) es true s M)
  | .nil, c, f, X, k, [], h => ⟨fun pins s σ H Q I ⟨js, M, s', T, S, g⟩ => pts_nil.run pins s σ H Q I (Go.ok g .refl T rfl)⟩
  | .nil, c, f, X, k, _ :: _, h => absurd h Bool.false_ne_true
  | .cons _ _, c, f, X, k, [], h => absurd h Bool.false_ne_true
  | .cons e es, c, f, X, k, x :: xs, h => by
    have h : (mT G N c f e x && mIfs G N c f es xs) = true := h
    simp only [Bool.and_eq_true] at h
    have h2 := pts_cons (sT e k x h.1) (sIf es k xs h.2)
    exact ⟨fun pins s σ H Q I q => h2.run pins s σ H Q I (rd_tand q)⟩
theorem sO : ∀ (o : O) {c : Scope} {f : Str → Bool} {X : Cx} (k : Okx G N c f n X) (x : Option Expr), mO G N c f o x = true → PO X x (tO X.K fun s M => evO G (callF G n) o s M)
  | .no, c, f, X, k, none, h => po_weak po_none fun s H Q q => rd_nopart q
  | .no, c, f, X, k, some _, h => absurd h Bool.false_ne_true
  | .at e, c, f, X, k, none, h => absurd h Bool.false_ne_true
  | .at e, c, f, X, k, some x, h => po_weak (po_some (sE e k x h)) fun s H Q q => rd_part q
theorem sI : ∀ (i : It) {c : Scope} {f : Str → Bool} {X : Cx} (k : Okx G N c f n X) (x tg : Expr), mI G N c f i x = true → PI X tg x (tI X.K fun s M => evI G (callF G n) i s M)
  | .ex e, c, f, X, k, x, tg, h => pi_weak (pi_any (sE e k x h)) fun s H Q q => rd_ex q
  | .rg1 a, c, f, X, k, x, tg, h => by
    cases x with
    | Call fn xs kws p =>
      cases fn with
      | Name y q =>
        cases xs with
        | nil => exact absurd h Bool.false_ne_true
        | cons x1 xs =>
          cases xs with
          | cons _ _ => exact absurd h Bool.false_ne_true
          | nil =>
            cases kws with
            | cons _ _ => exact absurd h Bool.false_ne_true
            | nil =>
              have h : (decide (y = "range") && glbB c y && noStar x1 && mE G N c f a x1) = true := h
              simp only [Bool.and_eq_true, decide_eq_true_eq] at h
              obtain ⟨⟨⟨h1, h2⟩, h3⟩, h4⟩ := h
              subst h1
              exact pi_weak (pi_range1 (k.gl h2) (k.md.blt _ (by decide)) (pa_cons (sE a k x1 h4) pa_nil (star1 h3 _ _)) (star1 h3 _ _)) fun s H Q q => rd_rg1 q
      | _ => exact absurd h Bool.false_ne_true
    | _ => exact absurd h Bool.false_ne_true
  | .rg2 a b, c, f, X, k, x, tg, h => by
    cases x with
    | Call fn xs kws p =>
      cases fn with
      | Name y q =>
        cases xs with
        | nil => exact absurd h Bool.false_ne_true
        | cons x1 xs =>
          cases xs with
          | nil => exact absurd h Bool.false_ne_true
          | cons x2 xs =>
            cases xs with
            | cons _ _ => exact absurd h Bool.false_ne_true
            | nil =>
              cases kws with
              | cons _ _ => exact absurd h Bool.false_ne_true
              | nil =>
                have h : (decide (y = "range") && glbB c y && noStar x1 && noStar x2 && mE G N c f a x1 && mE G N c f b x2) = true := h
                simp only [Bool.and_eq_true, decide_eq_true_eq] at h
                obtain ⟨⟨⟨⟨⟨h1, h2⟩, h3⟩, h4⟩, h5⟩, h6⟩ := h
                subst h1
                have s2 : starEach [x2] X.env = [(false, eval x2 X.env)] := star1 h4 _ _
                have s1 : starEach [x1, x2] X.env = [(false, eval x1 X.env), (false, eval x2 X.env)] := by rw [star1 h3, s2]
                exact pi_weak (pi_range2 (k.gl h2) (k.md.blt _ (by decide)) (pa_cons (sE a k x1 h5) (pa_cons (sE b k x2 h6) pa_nil (star1 h4 _ _)) (star1 h3 _ _)) s1 s2) fun s H Q q => rd_rg2 q
      | _ => exact absurd h Bool.false_ne_true
    | _ => exact absurd h Bool.false_ne_true
theorem sG : ∀ (t : Tg) {c : Scope} {f : Str → Bool} {X : Cx} (k : Okx G N c f n X) (own : List Nat), t.names.all own.contains = true → ∀ (x : Expr), mG G N c f t x = true →
    PG X x (fun v t' H Q => gG X.K (evG G (callF G n) t) v t' H fun t2 H2 => L2.wipe t2 own = L2.wipe t' own → Q t2 H2)
  | .nm i, c, f, X, k, own, ho, x, h => by
    cases x with
    | Name y p =>
      have h : (decide (N[i]? = some y) && stoB c f y) = true := h
      simp only [Bool.and_eq_true, decide_eq_true_eq] at h
      obtain ⟨l1, l2⟩ := k.sto h.2
      have hi : i ∈ own := by
        have := List.all_eq_true.mp ho i (by simp [Tg.names])
        exact List.contains_iff_mem.mp this
      refine pg_weak (pg_name k.nod (k.ix h.1) l1 l2) fun v t' H Q ⟨js, M, s, d, T, S, r, g⟩ => ?_
      exact Go.ok g .refl T (S.set r i) (wipe_set _ _ hi _)
    | _ => exact absurd h Bool.false_ne_true
  | .tp is, c, f, X, k, own, ho, x, h => by
    cases x with
    | Tuple es j p =>
      have h : namesM N c f is es = true := h
      obtain ⟨j1, j2, j3⟩ := names_run k h
      have hi : ∀ i ∈ is, i ∈ own := fun i hi => List.contains_iff_mem.mp (List.all_eq_true.mp ho i hi)
      refine pg_weak (pg_tup k.calm j1 j2 j3) fun v t' H Q ⟨js, M, s, d, T, S, r, g⟩ => ?_
      have g : Go X.K (RepS X.K) js H (match (generalizing := false) d with | .tup ds => R.when (ds.length = is.length) (.ok (setsE is ds s, M)) | _ => .bad) _ := g
      cases d with
      | tup ds =>
        cases r with
        | tup hs hr =>
          obtain ⟨hl, g⟩ := Go.when g
          have hl' := hr.length
          exact ⟨_, _, rfl, hs, by omega, by omega, Go.ok g .refl T (sets_rep hr S) (wipe_sets hi)⟩
      | _ => exact g.bad
    | _ => exact absurd h Bool.false_ne_true
  | .sb o i, c, f, X, k, own, ho, x, h => by
    cases x with
    | Subscript y z p =>
      have h : (noSl z && mE G N c f o y && mE G N c f i z) = true := h
      simp only [Bool.and_eq_true] at h
      refine pg_weak (pg_sub (sE o k y h.1.2) (sE i k z h.2) (set_any k.u1) (sub1 h.1.1 _ _ _)) fun v t' H Q ⟨js, M, s, d, T, S, r, g⟩ => ?_
      have g : Go X.K (RepS X.K) js H ((ev G (callF G n) o s M).bind fun p => (ev G (callF G n) i s p.2).bind fun q => (setItem q.2 p.1 q.1 d).bind fun M' => .ok (s, M')) _ := g
      refine ⟨js, M, s, T, S, g.bind.mono ?_⟩
      rintro u H1 ⟨js1, M1, d1, T1, x1, r1, g1⟩
      refine ⟨js1, M1, s, T1, S.ext T x1, g1.bind.mono ?_⟩
      rintro w H2 ⟨js2, M2, d2, T2, x2, r2, s2, M4, e, ff⟩
      obtain ⟨M3, e3, e4⟩ := bind_ok e
      cases e4
      exact ⟨js2, M2, d1, d2, d, M4, T2, r1.ext T1 x2, r2, (r.ext T x1).ext T1 x2, e3, fun js3 H3 x3 T3 => ff js3 H3 t' x3 T3 (((S.ext T x1).ext T1 x2).ext T2 x3) rfl⟩
    | _ => exact absurd h Bool.false_ne_true
end
end
end Cp

/-! Statements: the compact run's answer is the walk's. -/
namespace Cp
open PySem L2

def EndP (K : PySem.W.Frag) (js : List Addr) (H : Hp) (D : Ends) (t : St) : Fl → Prop
  | .nx => D.nx t H
  | .bk => D.bk t H
  | .ct => D.ct t H
  | .rt d => ∀ v, Rep K js H d v → D.rt v H
def GoS (K : PySem.W.Frag) (js : List Addr) (H : Hp) (r : RS) (D : Ends) : Prop :=
  ∃ q, r = .ok q ∧ ∀ js' H' t', Ext js H js' H' → Tie K js' H' q.2.2 → RepS K js' H' q.2.1 t' → EndP K js' H' D t' q.1
def tS (K : PySem.W.Frag) (r : Ev → Mem → RS) : TS := fun D t H => ∃ js M s, Tie K js H M ∧ RepS K js H s t ∧ GoS K js H (r s M) D
section
variable {K : PySem.W.Frag} {t : St} {H : Hp} {Z : Ends}
theorem GoS.bind {α β : Type} {p : List Addr → Hp → α → β → Prop} {js : List Addr} {r : R (α × Mem)} {k : α × Mem → RS} (g : GoS K js H (r.bind k) Z) :
    Go K p js H r fun b H1 => ∃ js1 M1 a, Tie K js1 H1 M1 ∧ Ext js H js1 H1 ∧ p js1 H1 a b ∧ GoS K js1 H1 (k (a, M1)) Z := by
  obtain ⟨q, e, f⟩ := g
  obtain ⟨w, e1, e2⟩ := bind_ok e
  exact ⟨w.1, w.2, e1, fun js1 H1 b x1 T1 r1 => ⟨js1, w.2, w.1, T1, x1, r1, q, e2, fun js' H' t' x T r => f js' H' t' (x1.trans T1 x) T r⟩⟩
theorem GoS.ok {js : List Addr} {q : Fl × Ev × Mem} (g : GoS K js H (.ok q) Z) {js' : List Addr} {H' : Hp} (x : Ext js H js' H') (T : Tie K js' H' q.2.2) (S : RepS K js' H' q.2.1 t) : EndP K js' H' Z t q.1 := by
  obtain ⟨_, e, f⟩ := g
  cases e
  exact f _ _ _ x T S
theorem GoS.bad {js : List Addr} {P : Prop} (g : GoS K js H .bad Z) : P := by obtain ⟨_, e, _⟩ := g; cases e
theorem GoS.when {js : List Addr} {c : Prop} [Decidable c] {r : RS} (g : GoS K js H (R.when c r) Z) : c ∧ GoS K js H r Z := by
  obtain ⟨q, e, f⟩ := g
  obtain ⟨h, e⟩ := when_ok e
  exact ⟨h, q, e, f⟩
theorem st_nx (h : tS K (fun s M => .ok (.nx, s, M)) Z t H) : tNext Z t H := by
  obtain ⟨js, M, s, T, S, g⟩ := h
  exact g.ok .refl T S
theorem st_seq {ra rb : Ev → Mem → RS} (h : tS K (fun s M => (ra s M).bind fun q => match q.1 with
    | .nx => rb q.2.1 q.2.2
    | .bk => .ok (.bk, q.2.1, q.2.2)
    | .ct => .ok (.ct, q.2.1, q.2.2)
    | .rt d => .ok (.rt d, q.2.1, q.2.2)) Z t H) : tSeq (tS K ra) (tS K rb) Z t H := by
  obtain ⟨js, M, s, T, S, q, e, f⟩ := h
  obtain ⟨w, e1, e2⟩ := bind_ok e
  obtain ⟨fl, s1, M1⟩ := w
  refine ⟨js, M, s, T, S, _, e1, fun js1 H1 t1 x1 T1 S1 => ?_⟩
  cases fl with
  | nx => exact ⟨js1, M1, s1, T1, S1, q, e2, fun js2 H2 t2 x2 T2 S2 => f js2 H2 t2 (x1.trans T1 x2) T2 S2⟩
  | bk => cases e2; exact f js1 H1 t1 x1 T1 S1
  | ct => cases e2; exact f js1 H1 t1 x1 T1 S1
  | rt d => cases e2; exact f js1 H1 t1 x1 T1 S1
theorem st_drop {ra : Ev → Mem → RD} (h : tS K (fun s M => (ra s M).bind fun p => .ok (.nx, s, p.2)) Z t H) : tDrop (tE K ra) Z t H := by
  obtain ⟨js, M, s, T, S, g⟩ := h
  refine ⟨js, M, s, T, S, g.bind.mono ?_⟩
  rintro x H1 ⟨js1, M1, d, T1, x1, r1, g1⟩
  exact GoS.ok g1 .refl T1 (S.ext T x1)
theorem st_ret {ra : Ev → Mem → RD} (h : tS K (fun s M => (ra s M).bind fun p => .ok (.rt p.1, s, p.2)) Z t H) : tRet (tE K ra) Z t H := by
  obtain ⟨js, M, s, T, S, g⟩ := h
  refine ⟨js, M, s, T, S, g.bind.mono ?_⟩
  rintro x H1 ⟨js1, M1, d, T1, x1, r1, g1⟩
  exact GoS.ok (t := t) g1 .refl T1 (S.ext T x1) x r1
theorem st_if {rc : Ev → Mem → R (Bool × Mem)} {ra rb : Ev → Mem → RS} (h : tS K (fun s M => (rc s M).bind fun p => match p.1 with | true => ra s p.2 | false => rb s p.2) Z t H) : tIfS (tT K rc) (tS K ra) (tS K rb) Z t H := by
  obtain ⟨js, M, s, T, S, g⟩ := h
  refine ⟨js, M, s, T, S, g.bind.mono ?_⟩
  rintro x H1 ⟨js1, M1, d, T1, x1, r1, g1⟩
  have r1 : d = x := r1
  subst r1
  cases d with
  | true => exact ⟨js1, M1, s, T1, S.ext T x1, g1⟩
  | false => exact ⟨js1, M1, s, T1, S.ext T x1, g1⟩
theorem st_asg {ra : Ev → Mem → RD} {set : D → Ev → Mem → R (Ev × Mem)} (h : tS K (fun s M => (ra s M).bind fun p => (set p.1 s p.2).bind fun q => .ok (.nx, q.1, q.2)) Z t H) : tAsg (tE K ra) (gG K set) Z t H := by
  obtain ⟨js, M, s, T, S, g⟩ := h
  refine ⟨js, M, s, T, S, g.bind.mono ?_⟩
  rintro x H1 ⟨js1, M1, d, T1, x1, r1, g1⟩
  refine ⟨js1, M1, s, d, T1, S.ext T x1, r1, g1.bind.mono ?_⟩
  rintro t2 H2 ⟨js2, M2, s2, T2, x2, S2, g2⟩
  exact GoS.ok g2 .refl T2 S2
theorem st_set {ra : Ev → Mem → RD} {i : Nat} (h : tS K (fun s M => (ra s M).bind fun p => .ok (.nx, s.set i (some p.1), p.2)) Z t H) : tAsg (tE K ra) (gName i) Z t H := by
  obtain ⟨js, M, s, T, S, g⟩ := h
  refine ⟨js, M, s, T, S, g.bind.mono ?_⟩
  rintro x H1 ⟨js1, M1, d, T1, x1, r1, g1⟩
  exact GoS.ok g1 .refl T1 ((S.ext T x1).set r1 i)
theorem st_par {ra : Ev → Mem → R (List D × Mem)} {i j : Nat} (h : tS K (fun s M => (ra s M).bind fun p => R.when (p.1.length = [i, j].length) (.ok (.nx, setsE [i, j] p.1 s, p.2))) Z t H) : tPar i j (tA K ra) Z t H := by
  obtain ⟨js, M, s, T, S, g⟩ := h
  refine ⟨js, M, s, T, S, g.bind.mono ?_⟩
  rintro x H1 ⟨js1, M1, ds, T1, x1, r1, g1⟩
  obtain ⟨hl, g1⟩ := g1.when
  have S2 := sets_rep (is := [i, j]) r1 (S.ext T x1)
  have hl' := r1.length
  match x, hl' with
  | [v, w], _ => exact ⟨v, w, rfl, GoS.ok g1 .refl T1 S2⟩
  | [], e => exact absurd (e.symm.trans hl) (by simp)
  | [_], e => exact absurd (e.symm.trans hl) (by simp)
  | _ :: _ :: _ :: _, e => exact absurd (e.symm.trans hl) (by simp)
theorem st_par3 {ra : Ev → Mem → R (List D × Mem)} {i j l : Nat} (h : tS K (fun s M => (ra s M).bind fun p => R.when (p.1.length = [i, j, l].length) (.ok (.nx, setsE [i, j, l] p.1 s, p.2))) Z t H) : tPar3 i j l (tA K ra) Z t H := by
  obtain ⟨js, M, s, T, S, g⟩ := h
  refine ⟨js, M, s, T, S, g.bind.mono ?_⟩
  rintro x H1 ⟨js1, M1, ds, T1, x1, r1, g1⟩
  obtain ⟨hl, g1⟩ := g1.when
  have S2 := sets_rep (is := [i, j, l]) r1 (S.ext T x1)
  have hl' := r1.length
  match x, hl' with
  | [u, v, w], _ => exact ⟨u, v, w, rfl, GoS.ok g1 .refl T1 S2⟩
  | [], e => exact absurd (e.symm.trans hl) (by simp)
  | [_], e => exact absurd (e.symm.trans hl) (by simp)
  | [_, _], e => exact absurd (e.symm.trans hl) (by simp)
  | _ :: _ :: _ :: _ :: _, e => exact absurd (e.symm.trans hl) (by simp)
theorem st_while {rc : Ev → Mem → R (Bool × Mem)} {rb : Ev → Mem → RS} (h : tS K (fun s M => whileR rc rb wf s M) Z t H) : tWhile (tT K rc) (tS K rb) Z t H := by
  obtain ⟨js0, M0, s0, T0, S0, z, e0, f⟩ := h
  refine ⟨fun m t H' => ∃ js M s, Ext js0 H js H' ∧ Tie K js H' M ∧ RepS K js H' s t ∧ whileR rc rb m s M = .ok z, ⟨wf, js0, M0, s0, .refl, T0, S0, e0⟩, ?_⟩
  rintro m t1 H1 ⟨js1, M1, s1, x1, T1, S1, e1⟩
  cases m with
  | zero => cases e1
  | succ m =>
    obtain ⟨p, e2, e3⟩ := bind_ok (show (rc s1 M1).bind _ = .ok z from e1)
    refine ⟨js1, M1, s1, T1, S1, p.1, p.2, e2, fun js2 H2 b x2 T2 eb => ?_⟩
    have eb : p.1 = b := eb
    subst eb
    cases hb : p.1 with
    | false =>
      rw [hb] at e3
      cases e3
      show (if _ = true then _ else _)
      rw [if_neg Bool.false_ne_true]
      exact f js2 H2 t1 (x1.trans T1 x2) T2 (S1.ext T1 x2)
    | true =>
      rw [hb] at e3
      show (if _ = true then _ else _)
      rw [if_pos rfl]
      obtain ⟨q, e4, e5⟩ := bind_ok e3
      obtain ⟨fl, s3, M3⟩ := q
      refine ⟨fun t' H' => ∃ js M s, Ext js0 H js H' ∧ Tie K js H' M ∧ RepS K js H' s t' ∧ whileR rc rb m s M = .ok z, fun t' H' w => ⟨m, Nat.lt_succ_self _, w⟩, js2, p.2, s1, T2, S1.ext T1 x2, _, e4, fun js3 H3 t3 x3 T3 S3 => ?_⟩
      have x := (x1.trans T1 x2).trans T2 x3
      cases fl with
      | nx => exact ⟨js3, M3, s3, x, T3, S3, e5⟩
      | ct => exact ⟨js3, M3, s3, x, T3, S3, e5⟩
      | bk => cases e5; exact f js3 H3 t3 x T3 S3
      | rt d => cases e5; exact f js3 H3 t3 x T3 S3
theorem st_for {ri : Ev → Mem → R (Src × Mem)} {set : D → Ev → Mem → R (Ev × Mem)} {rb : Ev → Mem → RS} (h : tS K (fun s M => (ri s M).bind fun p => forX p.1 set rb wf 0 s p.2) Z t H) : tFor (tI K ri) (gG K set) (tS K rb) Z t H := by
  obtain ⟨js, M, s, T, S, g⟩ := h
  refine ⟨js, M, s, T, S, g.bind.mono ?_⟩
  rintro J H0 ⟨js0, M0, c, T0, x0, src, z, e0, f⟩
  have S0 := S.ext T x0
  refine ⟨fun i m t H' => ∃ js M s, Ext js0 H0 js H' ∧ Tie K js H' M ∧ RepS K js H' s t ∧ forX c set rb m i s M = .ok z, ⟨wf, js0, M0, s, .refl, T0, S0, e0⟩, ?_⟩
  rintro i m t1 H1 ⟨js1, M1, s1, x1, T1, S1, e1⟩
  cases m with
  | zero => cases e1
  | succ m =>
    obtain ⟨o, ho, e2⟩ := of_ok (show R.of (c.at_ M1 i) _ = .ok z from e1)
    cases o with
    | none =>
      cases e2
      exact .inl ⟨(src js1 H1 M1 x1 T1 i).1 ho, f js1 H1 t1 x1 T1 S1⟩
    | some d =>
      obtain ⟨p, e3, e4⟩ := bind_ok e2
      obtain ⟨q, e5, e6⟩ := bind_ok e4
      obtain ⟨fl, s4, M4⟩ := q
      obtain ⟨hgo, hy⟩ := (src js1 H1 M1 x1 T1 i).2 d ho
      refine .inr ⟨hgo, fun t' H' => ∃ js M s, Ext js0 H0 js H' ∧ Tie K js H' M ∧ RepS K js H' s t' ∧ forX c set rb m (i + 1) s M = .ok z, fun t' H' w => ⟨m, Nat.lt_succ_self _, w⟩, fun v H2 y => ?_⟩
      obtain ⟨js2, x2, T2, r2⟩ := hy v H2 y
      refine ⟨js2, M1, s1, d, T2, S1.ext T1 x2, r2, p.1, p.2, e3, fun js3 H3 t3 x3 T3 S3 => ?_⟩
      refine ⟨js3, p.2, p.1, T3, S3, _, e5, fun js4 H4 t4 x4 T4 S4 => ?_⟩
      have x := ((x1.trans T1 x2).trans T2 x3).trans T3 x4
      cases fl with
      | nx => exact ⟨js4, M4, s4, x, T4, S4, e6⟩
      | ct => exact ⟨js4, M4, s4, x, T4, S4, e6⟩
      | bk => cases e6; exact f js4 H4 t4 x T4 S4
      | rt d => cases e6; exact f js4 H4 t4 x T4 S4
end

/-! ### side facts of assignments -/
theorem noComp1 {v : Expr} (h : noComp v = true) (tg : Option Expr) (l : Nat) (env : Env) : swapsWith v tg l env = pure false := by
  cases v <;> first | rfl | exact absurd h Bool.false_ne_true
theorem swap_none {tg v : Expr} (h : (noTup tg || noTup v) = true) (hl : ∀ ts p, tg ≠ .List ts p) (env : Env) : swappedStores [tg] v env = pure none := by
  rw [Bool.or_eq_true] at h
  rcases h with h | h
  · cases tg <;> first | exact absurd h Bool.false_ne_true | exact absurd rfl (hl _ _) | rfl
  · cases v <;> first | exact absurd h Bool.false_ne_true | (cases tg <;> rfl)
theorem swap2 {x y : Str} {px py p1 p2 : Pos} {k1 k2} {a b : Expr} {env : Env} (hk : env.scope.kind = .function) (hx : env.scope.names.lookup x = some .local) (hy : env.scope.names.lookup y = some .local) (hl : px.line = py.line) (hne : x ≠ y)
    (ha : noStar a = true) (hb : noStar b = true) (hf : (foldedForSure 8 a && foldedForSure 8 b) = false) (hc : (constantsAlone 8 a && constantsAlone 8 b) = false) :
    swappedStores [.Tuple [.Name x px, .Name y py] k1 p1] (.Tuple [a, b] k2 p2) env = pure (some [x, y]) := by
  have kb : env.blockKind = .function := by unfold Env.blockKind; rw [hk]; rfl
  have kx : env.kindOf x = some .local := hx
  have ky : env.kindOf y = some .local := hy
  have dd : [x, y].eraseDups.length = 2 := by
    rw [List.eraseDups_cons]
    have : ([y].filter fun b => !b == x) = [y] := by simp [Ne.symm hne]
    rw [this]
    rfl
  have kl : (some NameKind.local == some NameKind.local) = true := rfl
  have e1 : ([a, b].all (foldedForSure 8)) = false := by rw [List.all_cons, List.all_cons, List.all_nil, Bool.and_true]; exact hf
  have e2 : ([a, b].all (constantsAlone 8)) = false := by rw [List.all_cons, List.all_cons, List.all_nil, Bool.and_true]; exact hc
  have e4 : ([Expr.Name x px, Expr.Name y py].filterMap fun
    | .Name id pos => if env.kindOf id == some .local && pos.line == px.line then some id else none
    | _ => none) = [x, y] := by
    simp [kx, ky, hl, kl]
  show (if (!([Expr.Name x px, Expr.Name y py].length == 2 || [Expr.Name x px, Expr.Name y py].length == 3) || [a, b].length != [Expr.Name x px, Expr.Name y py].length || env.blockKind != .function) = true then pure none else _) = _
  rw [if_neg (by rw [kb]; exact Bool.false_ne_true)]
  rw [if_neg (by
    intro h
    obtain ⟨e, he, hs⟩ := List.any_eq_true.mp h
    rcases List.mem_cons.mp he with rfl | he
    · cases e <;> first | exact absurd hs Bool.false_ne_true | exact absurd ha Bool.false_ne_true
    · rcases List.mem_cons.mp he with rfl | he
      · cases e <;> first | exact absurd hs Bool.false_ne_true | exact absurd hb Bool.false_ne_true
      · cases he)]
  have main : ∀ l : List Str, l = [x, y] → (if (l.length != 2 || l.eraseDups.length != l.length) = true then (pure none : Sem (Option (List Str))) else if [a, b].all (foldedForSure 8) = true then pure none else if [a, b].all (constantsAlone 8) = true then ((unsupported "assign.tuple-of-constant-expressions:order-of-the-stores" : Sem Unit) >>= fun _ => pure (some l)) else pure (some l)) = pure (some [x, y]) := by
    rintro _ rfl
    rw [if_neg (by rw [dd]; exact Bool.false_ne_true), if_neg (by rw [e1]; decide), if_neg (by rw [e2]; decide)]
  exact main _ e4
theorem swap3 {x y z : Str} {px py pz p1 p2 : Pos} {k1 k2} {a b c : Expr} {env : Env} (hk : env.scope.kind = .function) (hx : env.scope.names.lookup x = some .local) (hy : env.scope.names.lookup y = some .local) (hz : env.scope.names.lookup z = some .local) (hl : px.line = py.line) (hl2 : px.line = pz.line) (hne : x ≠ y) (hne2 : x ≠ z) (hne3 : y ≠ z)
    (ha : noStar a = true) (hb : noStar b = true) (hd : noStar c = true) (hf : (foldedForSure 8 a && foldedForSure 8 b && foldedForSure 8 c) = false) (hc : (constantsAlone 8 a && constantsAlone 8 b && constantsAlone 8 c) = false) :
    swappedStores [.Tuple [.Name x px, .Name y py, .Name z pz] k1 p1] (.Tuple [a, b, c] k2 p2) env = pure (some [x, y, z]) := by
  have kb : env.blockKind = .function := by unfold Env.blockKind; rw [hk]; rfl
  have kx : env.kindOf x = some .local := hx
  have ky : env.kindOf y = some .local := hy
  have kz : env.kindOf z = some .local := hz
  have dd : [x, y, z].eraseDups.length = 3 := by
    rw [List.eraseDups_cons]
    have : ([y, z].filter fun b => !b == x) = [y, z] := by simp [Ne.symm hne, Ne.symm hne2]
    rw [this, List.eraseDups_cons]
    have : ([z].filter fun b => !b == y) = [z] := by simp [Ne.symm hne3]
    rw [this]
    rfl
  have kl : (some NameKind.local == some NameKind.local) = true := rfl
  have e1 : ([a, b, c].all (foldedForSure 8)) = false := by rw [List.all_cons, List.all_cons, List.all_cons, List.all_nil, Bool.and_true, ← Bool.and_assoc]; exact hf
  have e2 : ([a, b, c].all (constantsAlone 8)) = false := by rw [List.all_cons, List.all_cons, List.all_cons, List.all_nil, Bool.and_true, ← Bool.and_assoc]; exact hc
  have e4 : ([Expr.Name x px, Expr.Name y py, Expr.Name z pz].filterMap fun
    | .Name id pos => if env.kindOf id == some .local && pos.line == px.line then some id else none
    | _ => none) = [x, y, z] := by
    simp [kx, ky, kz, ← hl, ← hl2, kl]
  show (if (!([Expr.Name x px, Expr.Name y py, Expr.Name z pz].length == 2 || [Expr.Name x px, Expr.Name y py, Expr.Name z pz].length == 3) || [a, b, c].length != [Expr.Name x px, Expr.Name y py, Expr.Name z pz].length || env.blockKind != .function) = true then pure none else _) = _
  rw [if_neg (by rw [kb]; exact Bool.false_ne_true)]
  rw [if_neg (by
    intro h
    obtain ⟨e, he, hs⟩ := List.any_eq_true.mp h
    rcases List.mem_cons.mp he with rfl | he
    · cases e <;> first | exact absurd hs Bool.false_ne_true | exact absurd ha Bool.false_ne_true
    · rcases List.mem_cons.mp he with rfl | he
      · cases e <;> first | exact absurd hs Bool.false_ne_true | exact absurd hb Bool.false_ne_true
      · rcases List.mem_cons.mp he with rfl | he
        · cases e <;> first | exact absurd hs Bool.false_ne_true | exact absurd hd Bool.false_ne_true
        · cases he)]
  have main : ∀ l : List Str, l = [x, y, z] → (if (l.length != 3 || l.eraseDups.length != l.length) = true then (pure none : Sem (Option (List Str))) else if [a, b, c].all (foldedForSure 8) = true then pure none else if [a, b, c].all (constantsAlone 8) = true then ((unsupported "assign.tuple-of-constant-expressions:order-of-the-stores" : Sem Unit) >>= fun _ => pure (some l)) else pure (some l)) = pure (some [x, y, z]) := by
    rintro _ rfl
    rw [if_neg (by rw [dd]; exact Bool.false_ne_true), if_neg (by rw [e1]; decide), if_neg (by rw [e2]; decide)]
  exact main _ e4
end Cp

namespace Cp
open PySem L2
section
variable {G : Mdl} {N : List Str} {n : Nat}
theorem sG0 {t : Tg} {c : Scope} {f : Str → Bool} {X : Cx} (k : Okx G N c f n X) {x : Expr} (h : mG G N c f t x = true) : PG X x (gG X.K (evG G (callF G n) t)) := by
  refine pg_weak (sG t k t.names (List.all_eq_true.mpr fun i hi => List.contains_iff_mem.mpr hi) x h) fun v t' H Q ⟨js, M, s, d, T, S, r, g⟩ => ?_
  exact ⟨js, M, s, d, T, S, r, g.mono fun t2 H2 q _ => q⟩
theorem mG_shape {c : Scope} {f : Str → Bool} {t : Tg} {x : Expr} (h : mG G N c f t x = true) : (∀ ts p, x ≠ .List ts p) ∧ ∀ env, (assignEach [x] env).map (·.2) = [assign x env] := by
  cases t <;> cases x <;> first | exact absurd h Bool.false_ne_true | exact ⟨fun _ _ e => (nomatch e), fun _ => rfl⟩
theorem asg_run {t : Tg} {e : E} {c : Scope} {f : Str → Bool} {X : Cx} (k : Okx G N c f n X) {tg v : Expr} {p : Pos} (h1 : noComp v = true) (h2 : (noTup tg || noTup v) = true) (h3 : mG G N c f t tg = true) (h4 : mE G N c f e v = true) :
    PS X (.Assign [tg] v p) (tS X.K fun s M => evS G (callF G n) (.asg t e) s M) := by
  obtain ⟨g1, g2⟩ := mG_shape h3
  exact ps_weak (ps_asg (sE e k v h4) (sG0 k h3) (noComp1 h1 _ _ _) (swap_none h2 g1 _) (g2 _)) fun D s H q => st_asg q
theorem set_run {i : Nat} {e : E} {c : Scope} {f : Str → Bool} {X : Cx} (k : Okx G N c f n X) {y : Str} {v : Expr} {py p : Pos} (h1 : noComp v = true) (h2 : N[i]? = some y) (h3 : stoB c f y = true) (h4 : mE G N c f e v = true) :
    PS X (.Assign [.Name y py] v p) (tS X.K fun s M => evS G (callF G n) (.asg (.nm i) e) s M) := by
  obtain ⟨l1, l2⟩ := k.sto h3
  exact ps_weak (ps_set k.nod (k.ix h2) l1 (sE e k v h4) (noComp1 h1 _ _ _) l2) fun D s H q => st_set q
theorem bnot {b : Bool} (h : (!b) = true) : b = false := by cases b; rfl; cases h
theorem par2_run {i j : Nat} {es : Es} {c : Scope} {f : Str → Bool} {X : Cx} (k : Okx G N c f n X) (hk : X.env.scope.kind = .function) {x y : Str} {px py p1 p2 p : Pos} {k1 k2} {a b : Expr}
    (h1 : N[i]? = some x) (h2 : N[j]? = some y) (h3 : i ≠ j) (h4 : c.names.lookup x = some .local) (h5 : c.names.lookup y = some .local) (h6 : px.line = py.line) (h7 : noStar a = true) (h8 : noStar b = true)
    (h9 : (foldedForSure 8 a && foldedForSure 8 b) = false) (h10 : (constantsAlone 8 a && constantsAlone 8 b) = false) (h11 : mEs G N c f es [a, b] = true) :
    PS X (.Assign [.Tuple [.Name x px, .Name y py] k1 p1] (.Tuple [a, b] k2 p2) p) (tS X.K fun s M => evS G (callF G n) (.par [i, j] es) s M) := by
  have hx : X.env.scope.names.lookup x = some .local := by rw [k.sc]; exact h4
  have hy : X.env.scope.names.lookup y = some .local := by rw [k.sc]; exact h5
  have hne : x ≠ y := by
    rintro rfl
    obtain ⟨a1, a2⟩ := List.getElem?_eq_some_iff.mp h1
    obtain ⟨b1, b2⟩ := List.getElem?_eq_some_iff.mp h2
    exact h3 ((List.getElem_inj k.nd).mp (a2.trans b2.symm))
  exact ps_weak (ps_par k.calm k.nod (k.ix h1) (k.ix h2) h3 hx hy (sEs es k _ h11) (swap2 hk hx hy h6 hne h7 h8 h9 h10) rfl) fun D s H q => st_par q
theorem par3_run {i j l : Nat} {es : Es} {c : Scope} {f : Str → Bool} {X : Cx} (k : Okx G N c f n X) (hk : X.env.scope.kind = .function) {x y z : Str} {px py pz p1 p2 p : Pos} {k1 k2} {a b d : Expr}
    (h1 : N[i]? = some x) (h2 : N[j]? = some y) (h2' : N[l]? = some z) (h3 : i ≠ j) (h3' : i ≠ l) (h3'' : j ≠ l) (h4 : c.names.lookup x = some .local) (h5 : c.names.lookup y = some .local) (h5' : c.names.lookup z = some .local) (h6 : px.line = py.line) (h6' : px.line = pz.line) (h7 : noStar a = true) (h8 : noStar b = true) (h8' : noStar d = true)
    (h9 : (foldedForSure 8 a && foldedForSure 8 b && foldedForSure 8 d) = false) (h10 : (constantsAlone 8 a && constantsAlone 8 b && constantsAlone 8 d) = false) (h11 : mEs G N c f es [a, b, d] = true) :
    PS X (.Assign [.Tuple [.Name x px, .Name y py, .Name z pz] k1 p1] (.Tuple [a, b, d] k2 p2) p) (tS X.K fun s M => evS G (callF G n) (.par [i, j, l] es) s M) := by
  have hx : X.env.scope.names.lookup x = some .local := by rw [k.sc]; exact h4
  have hy : X.env.scope.names.lookup y = some .local := by rw [k.sc]; exact h5
  have hz : X.env.scope.names.lookup z = some .local := by rw [k.sc]; exact h5'
  have inj : ∀ {i j : Nat} {x : Str}, N[i]? = some x → N[j]? = some x → i = j := fun {i j x} e e' => by
    obtain ⟨a1, a2⟩ := List.getElem?_eq_some_iff.mp e
    obtain ⟨b1, b2⟩ := List.getElem?_eq_some_iff.mp e'
    exact (List.getElem_inj k.nd).mp (a2.trans b2.symm)
  have n1 : x ≠ y := by rintro rfl; exact h3 (inj h1 h2)
  have n2 : x ≠ z := by rintro rfl; exact h3' (inj h1 h2')
  have n3 : y ≠ z := by rintro rfl; exact h3'' (inj h2 h2')
  exact ps_weak (ps_par3 k.calm k.nod (k.ix h1) (k.ix h2) (k.ix h2') h3 h3' h3'' hx hy hz (sEs es k _ h11) (swap3 hk hx hy hz h6 h6' n1 n2 n3 h7 h8 h8' h9 h10) rfl) fun D s H q => st_par3 q
theorem par_run {is : List Nat} {es : Es} {c : Scope} {f : Str → Bool} {X : Cx} (k : Okx G N c f n X) (hk : X.env.scope.kind = .function) {x : Stmt} (h : mS G N c f (.par is es) x = true) : PS X x (tS X.K fun s M => evS G (callF G n) (.par is es) s M) := by
  unfold mS at h
  split at h
  all_goals first | contradiction | skip
  · rename_i e1 e2
    cases e2
    simp only [Bool.and_eq_true, decide_eq_true_eq] at h
    obtain ⟨⟨⟨⟨⟨⟨⟨⟨⟨⟨a1, a2⟩, a3⟩, a4⟩, a5⟩, a6⟩, a7⟩, a8⟩, a9⟩, a10⟩, a11⟩ := h
    exact par2_run k hk a1 a2 a3 a4 a5 a6 a7 a8 (bnot a9) (bnot a10) a11
  · rename_i e1 e2
    cases e2
    simp only [Bool.and_eq_true, decide_eq_true_eq] at h
    obtain ⟨⟨⟨⟨⟨⟨⟨⟨⟨⟨⟨⟨⟨⟨⟨⟨a1, a2⟩, a3⟩, a4⟩, a5⟩, a6⟩, b1⟩, b2⟩, b3⟩, b4⟩, b5⟩, a7⟩, a8⟩, a12⟩, a9⟩, a10⟩, a11⟩ := h
    exact par3_run k hk a1 a2 a3 a4 a5 a6 b1 b2 b3 b4 b5 a7 a8 a12 (bnot a9) (bnot a10) a11
mutual
theorem sS : ∀ (a : S) {c : Scope} {f : Str → Bool} {X : Cx} (k : Okx G N c f n X) (hk : X.env.scope.kind = .function) (x : Stmt), mS G N c f a x = true → PS X x (tS X.K fun s M => evS G (callF G n) a s M)
  | .asg t e, c, f, X, k, hk, x, h => by
    cases x with
    | Assign ts v p =>
      cases ts with
      | nil => (cases t <;> exact absurd h Bool.false_ne_true)
      | cons tg ts =>
        cases ts with
        | cons _ _ => (cases t <;> (try cases tg) <;> exact absurd h Bool.false_ne_true)
        | nil =>
          cases t with
          | nm i =>
            cases tg with
            | Name y py =>
              have h : (noComp v && decide (N[i]? = some y) && stoB c f y && mE G N c f e v) = true := h
              simp only [Bool.and_eq_true, decide_eq_true_eq] at h
              exact set_run k h.1.1.1 h.1.1.2 h.1.2 h.2
            | _ =>
              have h : (noComp v && (_ || noTup v) && mG G N c f (.nm i) _ && mE G N c f e v) = true := h
              simp only [Bool.and_eq_true] at h
              exact asg_run k h.1.1.1 h.1.1.2 h.1.2 h.2
          | tp is =>
            have h : (noComp v && (noTup tg || noTup v) && mG G N c f (.tp is) tg && mE G N c f e v) = true := h
            simp only [Bool.and_eq_true] at h
            exact asg_run k h.1.1.1 h.1.1.2 h.1.2 h.2
          | sb o i =>
            have h : (noComp v && (noTup tg || noTup v) && mG G N c f (.sb o i) tg && mE G N c f e v) = true := h
            simp only [Bool.and_eq_true] at h
            exact asg_run k h.1.1.1 h.1.1.2 h.1.2 h.2
    | _ => (cases t <;> exact absurd h Bool.false_ne_true)
  | .asgc i e, c, f, X, k, hk, x, h => by
    cases x with
    | Assign ts v p =>
      cases ts with
      | nil => exact absurd h Bool.false_ne_true
      | cons tg ts =>
        cases tg with
        | Name y py =>
          cases ts with
          | cons _ _ => exact absurd h Bool.false_ne_true
          | nil =>
            cases v with
            | ListComp z gs scope pos =>
              have h : (decide (N[i]? = some y) && decide (c.names.lookup y = some .local) && decide (py.line = pos.line) &&
                !(scope.names.any fun (n, k) => n == y && (k == .local || k == .cell)) && mE G N c f e (.ListComp z gs scope pos)) = true := h
              simp only [Bool.and_eq_true, decide_eq_true_eq] at h
              obtain ⟨⟨⟨⟨h1, h2⟩, h3⟩, h4⟩, h5⟩ := h
              have hy : X.env.scope.names.lookup y = some .local := by rw [k.sc]; exact h2
              cases e with
              | lc elt t it cond own =>
                cases gs with
                | nil => exact absurd h5 Bool.false_ne_true
                | cons g gs =>
                  obtain ⟨tg, iter, ifs, kk⟩ := g
                  cases gs with
                  | cons _ _ => exact absurd h5 Bool.false_ne_true
                  | nil =>
                    have h : (decide (kk = 0) && noSet iter && t.names.all own.contains && blkC N c scope (own.map fun i => (N.getD i Str.empty, i)) && mI G N c f it iter &&
                      mG G N (relS scope c) (fun x => scope.names.lookup x == some .cell) t tg && mIfs G N (relS scope c) (fun x => scope.names.lookup x == some .cell) cond ifs && mE G N (relS scope c) (fun x => scope.names.lookup x == some .cell) elt z) = true := h5
                    simp only [Bool.and_eq_true, decide_eq_true_eq] at h
                    obtain ⟨⟨⟨⟨⟨⟨⟨a1, a2⟩, a3⟩, a4⟩, a5⟩, a6⟩, a7⟩, a8⟩ := h
                    subst a1
                    have ok : BlkOk X.N X.env.scope scope (own.map fun i => (N.getD i Str.empty, i)) := by rw [k.hN, k.sc]; exact blkOk_by a4
                    have sw : swapsWith (.ListComp z [⟨tg, iter, ifs, 0⟩] scope pos) (some (.Name y py)) p.line X.env = pure true := sw_true hk hy (by rw [h3]; exact beq_self_eq_true _) (bnot h4)
                    refine ps_weak (ps_setLc (g := fun v t' H Q => gG X.K (evG G (callF G n) t) v t' H fun t2 H2 => L2.wipe t2 own = L2.wipe t' own → Q t2 H2) (te := tE X.K (ev G (callF G n) elt)) (tt := tT X.K fun s M => evTs G (callF G n) cond true s M) k.calm k.nod (k.ix h1) hy sw (sI it k iter tg a5) ok (fun s H C cl fp => sG t (k.blk scope s H C cl fp) own a3 tg a6) (fun s H C cl fp => sIf cond (k.blk scope s H C cl fp) ifs a7)
                      (fun s H C cl fp => sE elt (k.blk scope s H C cl fp) z a8) (noSet1 a2 _)) fun D s H q => ?_
                    have q := st_set (ra := ev G (callF G n) (.lc elt t it cond own)) (i := i) q
                    exact lam_lc (N := N) q
              | _ => exact absurd h5 Bool.false_ne_true
            | _ => exact absurd h Bool.false_ne_true
        | _ => exact absurd h Bool.false_ne_true
    | _ => exact absurd h Bool.false_ne_true
  | .par is es, c, f, X, k, hk, x, h => par_run k hk h
  | .expr e, c, f, X, k, hk, x, h => by
    cases x with
    | Expr v p =>
      have h : (noComp v && mE G N c f e v) = true := h
      rw [Bool.and_eq_true] at h
      exact ps_weak (ps_expr (sE e k v h.2) (noComp1 h.1 _ _ _)) fun D s H q => st_drop q
    | _ => exact absurd h Bool.false_ne_true
  | .iff t a b, c, f, X, k, hk, x, h => by
    cases x with
    | If y u v p =>
      have h : (mT G N c f t y && mSs G N c f a u && mSs G N c f b v) = true := h
      simp only [Bool.and_eq_true] at h
      exact ps_weak (ps_if (sT t k y h.1.1) (sSs a k hk u h.1.2) (sSs b k hk v h.2)) fun D s H q => st_if q
    | _ => exact absurd h Bool.false_ne_true
  | .whl t a, c, f, X, k, hk, x, h => by
    cases x with
    | While y u o p =>
      cases o with
      | cons _ _ => exact absurd h Bool.false_ne_true
      | nil =>
        have h : (mT G N c f t y && mSs G N c f a u) = true := h
        simp only [Bool.and_eq_true] at h
        exact ps_weak (ps_while (by rw [k.xe]; exact PassesOwn.never) (sT t k y h.1) (sSs a k hk u h.2)) fun D s H q => st_while q
    | _ => exact absurd h Bool.false_ne_true
  | .fr t it b, c, f, X, k, hk, x, h => by
    cases x with
    | For tg iter y o p =>
      cases o with
      | cons _ _ => exact absurd h Bool.false_ne_true
      | nil =>
        have h : (noSet iter && mG G N c f t tg && mI G N c f it iter && mSs G N c f b y) = true := h
        simp only [Bool.and_eq_true] at h
        exact ps_weak (ps_for (by rw [k.xe]; exact PassesOwn.never) k.calm (sI it k iter tg h.1.2) (sG0 k h.1.1.2) (sSs b k hk y h.2) (noSet1 h.1.1.1 _)) fun D s H q => st_for q
    | _ => exact absurd h Bool.false_ne_true
  | .ret e, c, f, X, k, hk, x, h => by
    cases x with
    | Return v p =>
      cases v with
      | none => exact absurd h Bool.false_ne_true
      | some v => exact ps_weak (ps_ret (sE e k v h)) fun D s H q => st_ret q
    | _ => exact absurd h Bool.false_ne_true
  | .ret0, c, f, X, k, hk, x, h => by
    cases x with
    | Return v p =>
      cases v with
      | some v => exact absurd h Bool.false_ne_true
      | none => exact ps_weak ps_retN fun D s H ⟨js, M, s', T, S, g⟩ => GoS.ok (t := s) g .refl T S .non .non
    | _ => exact absurd h Bool.false_ne_true
  | .brk, c, f, X, k, hk, x, h => by
    cases x with
    | Break p => exact ps_weak ps_break fun D s H ⟨js, M, s', T, S, g⟩ => GoS.ok (t := s) g .refl T S
    | _ => exact absurd h Bool.false_ne_true
  | .cont, c, f, X, k, hk, x, h => by
    cases x with
    | Continue p => exact ps_weak ps_continue fun D s H ⟨js, M, s', T, S, g⟩ => GoS.ok (t := s) g .refl T S
    | _ => exact absurd h Bool.false_ne_true
  | .pass, c, f, X, k, hk, x, h => by
    cases x with
    | Pass p => exact ps_weak ps_pass fun D s H q => st_nx q
    | _ => exact absurd h Bool.false_ne_true
  | .doc, c, f, X, k, hk, x, h => by
    cases x with
    | Expr v p =>
      cases v with
      | Constant z j q =>
        cases z with
        | str z => exact ps_weak ps_doc fun D s H q => st_nx q
        | _ => exact absurd h Bool.false_ne_true
      | _ => exact absurd h Bool.false_ne_true
    | _ => exact absurd h Bool.false_ne_true
theorem sSs : ∀ (ss : Ss) {c : Scope} {f : Str → Bool} {X : Cx} (k : Okx G N c f n X) (hk : X.env.scope.kind = .function) (xs : List Stmt), mSs G N c f ss xs = true → PSs X xs (tS X.K fun s M => evSs G (callF G n) ss s M)
  | .nil, c, f, X, k, hk, [], h => pss_weak pss_nil fun D s H q => st_nx q
  | .nil, c, f, X, k, hk, _ :: _, h => absurd h Bool.false_ne_true
  | .cons _ _, c, f, X, k, hk, [], h => absurd h Bool.false_ne_true
  | .cons s ss, c, f, X, k, hk, x :: xs, h => by
    have h : (mS G N c f s x && mSs G N c f ss xs) = true := h
    rw [Bool.and_eq_true] at h
    exact pss_weak (pss_cons (sS s k hk x h.1) (sSs ss k hk xs h.2)) fun D s H q => st_seq q
end
end
end Cp

/-! Defs, the module, the law. -/
namespace Cp
open PySem L2

theorem start_rep {K : PySem.W.Frag} {js : List Addr} {H : Hp} {ds : List D} {vs : List V} (N : List Str) (r : Reps K js H ds vs) : RepS K js H (ds.map some ++ List.replicate (N.length - ds.length) none) (L2.start N vs) := by
  have hl := r.length
  refine ⟨by simp [L2.start, hl], fun i d h => ?_⟩
  by_cases hi : i < ds.length
  · rw [List.getElem?_append_left (by simpa using hi), List.getElem?_map] at h
    obtain ⟨x, hx, e⟩ := Option.map_eq_some_iff.mp h
    cases e
    obtain ⟨v, hv, rv⟩ := r.get hx
    refine ⟨v, ?_, rv⟩
    unfold L2.start
    rw [List.getElem?_append_left (by rw [List.length_map]; omega), List.getElem?_map, hv]
    rfl
  · rw [List.getElem?_append_right (by simpa using hi), List.getElem?_replicate] at h
    split at h <;> cases h
section
variable {G : Mdl} {n : Nat} {P : Program} {w : World} {K : PySem.W.Frag} {mg : Str → Option Value} {base : Heap}
/-- from a def's end to what is asked behind it -/
theorem end_go {js : List Addr} {H : Hp} {r : RS} {Q : VK} (g : Go K (Rep K) js H (endF r) Q) : GoS K js H r { nx := fun _ H' => Q .non H', rt := Q } := by
  obtain ⟨d, M', e, f⟩ := g
  obtain ⟨q, e1, e2⟩ := bind_ok e
  refine ⟨q, e1, fun js' H' t' x T S => ?_⟩
  obtain ⟨fl, s1, M1⟩ := q
  cases fl with
  | nx => cases e2; exact f js' H' .non x T .non
  | rt d => cases e2; exact fun v r => f js' H' v x T r
  | bk => cases e2
  | ct => cases e2
theorem fnG_of {a : Addr} {g : Nat} {F : Fn} {x qual : Str} {ar : Arguments} {bd : List Stmt} {sc : Scope} {d1 d2 d3 d4 d5 d6 d7 : Value} {o1 o2 : Option Addr} {sl : Array (Option Value)} (hF : G.fns[g]? = some F)
    (at_ : K.lookup a = some ⟨d7, o1, .func (PySem.W.fnOf x qual ar bd sc d1 d2 d3 d4 o2 d5 d6), sl⟩) (cd : PySem.W.codeIn K d5 qual = true) (S : FnScope F.names F.ps sc) (hm : mSs G F.names sc (fun _ => true) F.body bd = true)
    (md : MdlOk G n P w K mg base) : FnG P w K mg base (n + 1) a (PySem.W.fnOf x qual ar bd sc d1 d2 d3 d4 o2 d5 d6) F.ps (spG K G (n + 1) g) := by
  have ln : ∀ vs H Q E, spG K G (n + 1) g vs H Q E → vs.length = F.ps.length := fun vs H Q E ⟨_, _, _, _, r, hl, _⟩ => r.length ▸ hl F hF
  refine ⟨ln, fun A outer s H args us vs Q E gd room en bnd rv hsp => ?_⟩
  have hvs := ln _ _ _ _ hsp
  have look := fun b o e => (en.bs b o e).1
  have there := en.mod.kin.keeps look
  have easy := en.mod.nolimit.keeps look
  have kinds : ∀ q ∈ F.ps.zip us, sc.names.lookup q.1 = some .local ∨ (sc.names.lookup q.1 = some .cell ∧ ((cellsFrom (s.heap.objs.size + 1) sc.names []).lookup q.1).isSome = true) := by
    rintro ⟨y, u⟩ hy
    exact (S.par y (List.of_mem_zip hy).1).imp id fun q => ⟨q, PySem.W.cellsFrom_some _ _ _ (.inl q)⟩
  refine codeAny_call_function room.depth (there _ _ at_) rfl S.co S.gen rfl (PySem.W.codeRec_of there cd) (bnd _ _ _ _ ?_)
  refine wpAny_newFunctionEnv_cells S.kind kinds fun env he s1 x => ?_
  subst he
  refine ⟨easy.keeps x.toInCall.keep, codeAny_func ?_⟩
  have I : Inv (cxOf CX0 P w K mg base F.names qual sc a d5 A outer s H E) [] (L2.start F.names vs) H s1 := inv_start S room.hd en hvs rv x
  have ok : Okx G F.names sc (fun _ => true) n (cxOf CX0 P w K mg base F.names qual sc a d5 A outer s H E).nox := ⟨rfl, S.nd, rfl, rfl, rfl, rfl, room.deeper _, gd, md⟩
  obtain ⟨js, M, ds, T, r, hl, go⟩ := hsp
  have go' : Go K (Rep K) js H (R.when (ds.length = F.ps.length) (endF (evSs G (callF G n) F.body (ds.map some ++ List.replicate (F.names.length - F.ps.length) none) M))) Q := by
    have z : callF G (n + 1) g ds M = R.when (ds.length = F.ps.length) (endF (evSs G (callF G n) F.body (ds.map some ++ List.replicate (F.names.length - F.ps.length) none) M)) := by
      show (match G.fns[g]? with | some F => R.when (ds.length = F.ps.length) (endF (evSs G (callF G n) F.body (ds.map some ++ List.replicate (F.names.length - F.ps.length) none) M)) | none => .bad) = _
      rw [hF]
    rw [← z]; exact go
  obtain ⟨hd, go'⟩ := go'.when
  rw [← hd] at go'
  have run := (sSs F.body ok S.kind bd hm).nox.run [] s1 (L2.start F.names vs) H _ I ⟨js, M, _, T, start_rep F.names r, end_go go'⟩
  refine wpAny_mono run (fun fl s' hs => ?_) fun e s' hs => hs
  cases fl with
  | ret u => obtain ⟨v, σ', H', J, rv', q⟩ := hs; exact ⟨v, H', J.os, J.bare, J.base, J.hok, rv', q⟩
  | next => obtain ⟨σ', H', J, q⟩ := hs; exact ⟨V.non, H', J.os, J.bare, J.base, J.hok, rfl, q⟩
  | brk => obtain ⟨_, _, _, q⟩ := hs; exact q.elim
  | cont => obtain ⟨_, _, _, q⟩ := hs; exact q.elim

/-! ### all defs -/
/-- a def of the text that the compact form tells -/
structure DefG (G : Mdl) (K : PySem.W.Frag) (mg : Str → Option Value) (F : Fn) : Prop where
  ex : ∃ (a : Addr) (x qual : Str) (ar : Arguments) (bd : List Stmt) (sc : Scope) (d1 d2 d3 d4 d5 d6 d7 : Value) (o1 o2 : Option Addr) (sl : Array (Option Value)), mg F.name = some (.ref a) ∧ PySem.W.keepIn K (.ref a) = true ∧
    K.lookup a = some ⟨d7, o1, .func (PySem.W.fnOf x qual ar bd sc d1 d2 d3 d4 o2 d5 d6), sl⟩ ∧ PySem.W.codeIn K d5 qual = true ∧ Binds K (PySem.W.fnOf x qual ar bd sc d1 d2 d3 d4 o2 d5 d6) F.ps [] ∧
    FnScope F.names F.ps sc ∧ mSs G F.names sc (fun _ => true) F.body bd = true
structure Mod0 (G : Mdl) (K : PySem.W.Frag) (mg : Str → Option Value) : Prop where
  blt : ∀ x ∈ bltNames, mg x = none
  con : ∀ p ∈ G.con, ∃ u v, mg p.1 = some u ∧ RelV v u ∧ ∀ js H, Rep K js H p.2 v
  fn : ∀ F ∈ G.fns, DefG G K mg F
theorem mdl_ok (m : Mod0 G K mg) : ∀ n, MdlOk G n P w K mg base
  | 0 => ⟨m.blt, fun g p e => m.con p (List.mem_of_getElem? e), fun f F e => by
      obtain ⟨a, x, qual, ar, bd, sc, d1, d2, d3, d4, d5, d6, d7, o1, o2, sl, h1, h2, h3, h4, h5, h6, h7⟩ := (m.fn F (List.mem_of_getElem? e)).ex
      refine ⟨a, _, h1, h2, h5, fun vs H Q E ⟨_, _, _, _, _, _, go⟩ => go.bad, fun A outer s H args us vs Q E gd room en bnd rv ⟨_, _, _, _, _, _, go⟩ => go.bad⟩⟩
  | n + 1 => ⟨m.blt, fun g p e => m.con p (List.mem_of_getElem? e), fun f F e => by
      obtain ⟨a, x, qual, ar, bd, sc, d1, d2, d3, d4, d5, d6, d7, o1, o2, sl, h1, h2, h3, h4, h5, h6, h7⟩ := (m.fn F (List.mem_of_getElem? e)).ex
      exact ⟨a, _, h1, h2, h5, fnG_of e h3 h4 h6 h7 (mdl_ok m n)⟩⟩
end

/-! ### the law -/
theorem frz_of {K : PySem.W.Frag} {H : Hp} {a : Addr} {vs : List V} (o : Only H) (h : SqL K H a vs) : FrzL K H a vs := by
  rcases h with (h | ⟨q, h⟩) | h
  · rcases o a with e | ⟨_, _, e⟩ <;> (rw [e] at h; cases h)
  · exact .inl ⟨q, h⟩
  · exact .inr h
theorem law_sp {G : Mdl} {n f : Nat} {F : Fn} {K : PySem.W.Frag} {H : Hp} {a : Addr} {ns : List Int} {M' : Mem} {E : XK} (hF : G.fns[f]? = some F) (h : callF G n f [.frl (ns.map .int)] [] = .ok (.bl true, M')) (k : FrzL K H a (ns.map V.int)) :
    spG K G n f [.ref a] H (fun v _ => v = .bl true) E :=
  ⟨[], [], [.frl (ns.map .int)], ⟨rfl, List.nodup_nil, fun _ _ e => by simp at e⟩, .cons (.frl k (Reps.of_ints ns)) .nil, fun F hF => callF_len h F hF, _, M', h, fun js' H' b x T r => by cases r; rfl⟩
/-- the call, from a heap of which the script alone is told -/
theorem law_one {P : Program} {w : World} {K : PySem.W.Frag} {mg mb : Str → Option Value} {k : Nat} {fa a : Addr} {x : Str} {sp : Sp} {s : Shared} {vs : List Value} {H : Hp} (kin : K.In s.heap) (hg : s.heap.Ns mainGlobals mg) (hb : s.heap.Ns builtinsNs mb)
    (hbb : ∀ x : Str, x ≠ "__name__" → mb x = bootBuiltins x) (lim : s.heap.NoLimit) (gens : s.gens = #[]) (ha : s.heap.get? a = some { cls := .type "list", data := .seq vs.toArray }) (room : Room k callerA)
    (F : ∀ base : Heap, ∃ fd : FuncData, FnG P w K mg base k fa fd [x] sp ∧ BindsTo s fd ⟨[.ref a], []⟩ [(x, .ref a)]) (hok : HOk P w H s.heap)
    (only : ∀ b u, H b = some u → b = a ∧ K.lookup a = none ∧ ∃ o ys, u = .frz o (.lst ys)) (hsp : sp [.ref a] H (fun v _ => v = .bl true) E0) :
    codeAny (model P w) callerA (.call (.ref fa) ⟨[.ref a], []⟩) (fun r s' => r = .ok (.ret (.bool true)) ∧ OldK s.heap s'.heap ∧ s'.os = s.os ∧ PyProof.Rows.AllBare s'.gens) s := by
  have clear : ∀ {b : Addr} {o : Obj} {es : Array DictEntry} {ep : Nat}, s.heap.get? b = some o → o.data = .dict es ep → H b = none := fun {b o es ep} e d => by
    cases q : H b with
    | none => rfl
    | some u =>
      obtain ⟨rfl, _⟩ := only b u q
      cases Option.some.inj (ha.symm.trans e)
      cases d
  have clearK : ∀ {b : Addr} {o : Obj}, K.lookup b = some o → H b = none := fun {b o} e => by
    cases q : H b with
    | none => rfl
    | some u =>
      obtain ⟨rfl, z, _⟩ := only b u q
      cases z.symm.trans e
  have names : ∀ {b : Addr} {m : Str → Option Value}, s.heap.Ns b m → (hidT s.heap H).Ns b m := fun {b m} ⟨o, es, ep, e, d, r⟩ => ⟨o, es, ep, hidT_get e (clear e d), d, r⟩
  have mod : Mod K mg (hidT s.heap H) :=
    { kin := fun b o e => hidT_get (kin b o e) (clearK e), glob := names hg, blt := ⟨mb, names hb, hbb⟩, nolimit := lim.imp fun mc q => ⟨names q.1, q.2⟩ }
  have en : Env0 P w K mg (hidT s.heap H) callerA [] s H :=
    { frames := rfl, mod := mod, bs := fun b o => of_hidT, bsz := Nat.le_of_eq (hidT_size _ _), funs := trivial, frf := fun b z => (nomatch (show b ∈ ([] : List Addr) from z)), hok := hok, bare := .of_eq gens }
  obtain ⟨fd, Fn', bnd⟩ := F (hidT s.heap H)
  refine codeAny_mono (Fn'.run callerA [] s H ⟨[.ref a], []⟩ [.ref a] [.ref a] (fun v _ => v = .bl true) E0 rfl room en bnd (.cons rfl .nil) hsp) ?_
  rintro (e | fl) s' h
  · exact h.elim
  cases fl with
  | ret u =>
    obtain ⟨v, H', os, bare, un, hok', r', q⟩ := h
    subst q
    cases r'
    refine ⟨rfl, OldK.of_keep fun b o e => ?_, os, bare⟩
    cases q : H b with
    | none => exact un.keep b o e q (fun z => nomatch (show b ∈ ([] : List Addr) from z)) (fun z => nomatch z)
    | some u =>
      obtain ⟨_, _, ob, ys, rfl⟩ := only b u q
      have e1 := (hok b _ q).1
      rw [e] at e1
      cases e1
      exact (hok' b _ (un.frzs b _ _ q)).1
  | _ => exact h.elim
/-- the law's head from the compact run -/
theorem law_all {P : Program} {w : World} {K : PySem.W.Frag} {mg mb : Str → Option Value} {k f : Nat} {fa a : Addr} {x : Str} {s : Shared} {vs : List Value} {ns : List Int} {G : Mdl} {D : Fn} {M' : Mem} (kin : K.In s.heap) (hg : s.heap.Ns mainGlobals mg) (hb : s.heap.Ns builtinsNs mb)
    (hbb : ∀ x : Str, x ≠ "__name__" → mb x = bootBuiltins x) (lim : s.heap.NoLimit) (gens : s.gens = #[]) (ha : s.heap.get? a = some { cls := .type "list", data := .seq vs.toArray }) (hi : PyProof.Rows.IntsAre vs ns) (hl : ns.length ≤ sizeLine) (room : Room k callerA)
    (F : ∀ base : Heap, ∃ fd : FuncData, FnG P w K mg base k fa fd [x] (spG K G k f) ∧ BindsTo s fd ⟨[.ref a], []⟩ [(x, .ref a)]) (hF : G.fns[f]? = some D) (hrun : callF G k f [.frl (ns.map .int)] [] = .ok (.bl true, M')) :
    codeAny (model P w) callerA (.call (.ref fa) ⟨[.ref a], []⟩) (fun r s' => r = .ok (.ret (.bool true)) ∧ OldK s.heap s'.heap ∧ s'.os = s.os ∧ PyProof.Rows.AllBare s'.gens) s := by
  have rv := vals_ints hi
  cases hk : K.lookup a with
  | some o =>
    have e := kin a o hk
    rw [ha] at e
    cases e
    refine law_one (H := fun _ => none) kin hg hb hbb lim gens ha room F (fun b u e => by cases e) (fun b u e => by cases e) (law_sp hF hrun (.inr ⟨_, vs.toArray, _, hk, rfl, rfl, rfl, ?_, rv⟩))
    rw [List.size_toArray, hi.length]; exact hl
  | none =>
    have h1 : ∀ {b : Addr} {u : HO}, (if b = a then some (HO.frz { cls := .type "list", data := .seq vs.toArray } (.lst (ns.map V.int))) else none) = some u → b = a ∧ u = HO.frz { cls := .type "list", data := .seq vs.toArray } (.lst (ns.map V.int)) := fun {b u} e => by
      split at e
      · rename_i hb; cases e; exact ⟨hb, rfl⟩
      · cases e
    refine law_one (H := fun b => if b = a then some (HO.frz { cls := .type "list", data := .seq vs.toArray } (.lst (ns.map V.int))) else none) kin hg hb hbb lim gens ha room F (fun b u e => ?_) (fun b u e => ?_) (law_sp hF hrun (.inl ⟨_, if_pos rfl⟩))
    · obtain ⟨rfl, rfl⟩ := h1 e
      exact ⟨ha, (by rw [List.length_map]; exact hl), vs, _, rv, ha⟩
    · obtain ⟨rfl, rfl⟩ := h1 e
      exact ⟨rfl, hk, _, _, rfl⟩
/-- the end: the module's defs, the compact run's answer -/
theorem law_walk {l : PySem.W.OpenLaw} {q : Program} {loose : List Str} {XP : (Str → Option Value) → Heap → Prop} {YP : World → Heap → Prop} {d : DefRec} {K : Params → PySem.W.Frag} {G : Mdl} {D : Fn} {k f : Nat} {x : Str} (hn : l.most = some 63) (hdf : d.params.defaults = []) (room : Room k callerA)
    (hD : G.fns[f]? = some D) (hx : D.ps = [x]) (hnm : D.name = d.name) (hY : ∀ (w : World) (h : Heap), YP w h → (K w.params).In h)
    (F : ∀ (w : World) (mg : Str → Option Value) (h : Heap), (K w.params).In h → h.Ns mainGlobals mg → Mod0 G (K w.params) mg)
    (run : ∀ ns : List Int, ns.length ≤ 63 → (∀ z ∈ ns, Builtin.Int.intBits z ≤ 1048576) → ∃ M', callF G k f [.frl (ns.map .int)] [] = .ok (.bl true, M')) :
    PySem.W.WalkO q loose XP YP l.row.toRowW d [] (fun f vs => PySem.call f vs) := by
  refine Att.attach_callB hn hdf fun w s₀ s₁ mg mb fa o pm cd doc a vs ns gr Y ho hd hcd hmg hobj hints hlen hbits hg => ?_
  have kin := hY w _ Y
  have m := F w mg _ kin gr.T.g
  obtain ⟨M', r⟩ := run ns hlen hbits
  have fns : ∀ base : Heap, MdlOk G k l.prog w (K w.params) mg base := fun base => mdl_ok m k
  refine law_all (x := x) (mb := mb) kin gr.T.g gr.T.b gr.T.builtins gr.T.nolimit hg hobj hints (Nat.le_trans hlen (by decide)) room (fun base => ?_) hD r
  obtain ⟨a2, fd2, g1, g2, g3, g4⟩ := (fns base).fn f D hD
  rw [hnm] at g1
  cases g1.symm.trans hmg
  have bnd := g3 s₁ [.ref a] kin (by rw [hx]; rfl)
  rw [hx] at bnd g4
  exact ⟨fd2, g4, bnd⟩
end Cp

/-! Plain: runs that end well, memory that grows, data by weight. -/
namespace Cp
open PySem L2

/-! ### a run that ends well -/
def Run {α : Type} (r : R α) (Q : α → Prop) : Prop := ∃ x, r = .ok x ∧ Q x
section
variable {α β : Type} {Q : α → Prop} {P : β → Prop}
@[simp] theorem run_ok {x : α} : Run (.ok x) Q ↔ Q x := ⟨fun ⟨_, e, h⟩ => by cases e; exact h, fun h => ⟨x, rfl, h⟩⟩
@[simp] theorem run_bad : ¬ Run (.bad : R α) Q := fun ⟨_, e, _⟩ => nomatch e
@[simp] theorem run_bind {r : R α} {k : α → R β} : Run (r.bind k) P ↔ Run r fun x => Run (k x) P := by
  constructor
  · rintro ⟨z, e, h⟩
    obtain ⟨w, e1, e2⟩ := bind_ok e
    exact ⟨w, e1, z, e2, h⟩
  · rintro ⟨w, rfl, z, e2, h⟩
    exact ⟨z, e2, h⟩
@[simp] theorem run_when {c : Prop} [Decidable c] {r : R α} : Run (R.when c r) Q ↔ c ∧ Run r Q := by
  constructor
  · rintro ⟨z, e, h⟩
    obtain ⟨hc, e⟩ := when_ok e
    exact ⟨hc, z, e, h⟩
  · rintro ⟨hc, z, e, h⟩
    exact ⟨z, (R.when_pos hc).trans e, h⟩
@[simp] theorem run_of {o : Option β} {k : β → R α} : Run (R.of o k) Q ↔ ∃ a, o = some a ∧ Run (k a) Q := by
  constructor
  · rintro ⟨z, e, h⟩
    obtain ⟨w, e1, e2⟩ := of_ok e
    exact ⟨w, e1, z, e2, h⟩
  · rintro ⟨a, rfl, z, e, h⟩
    exact ⟨z, e, h⟩
theorem Run.mono {r : R α} {Q' : α → Prop} (h : Run r Q) (w : ∀ x, Q x → Q' x) : Run r Q' := let ⟨x, e, q⟩ := h; ⟨x, e, w x q⟩
theorem Run.of_eq {r : R α} {x : α} (e : r = .ok x) (h : Q x) : Run r Q := ⟨x, e, h⟩
end
/-- one statement, then the rest -/
theorem run_cons {G : Mdl} {cf : Cf} {a : S} {r : Ss} {s : Ev} {M : Mem} {Q : Fl × Ev × Mem → Prop} (h : Run (evS G cf a s M) fun q => match q.1 with
    | .nx => Run (evSs G cf r q.2.1 q.2.2) Q
    | .bk => Q (.bk, q.2.1, q.2.2)
    | .ct => Q (.ct, q.2.1, q.2.2)
    | .rt d => Q (.rt d, q.2.1, q.2.2)) : Run (evSs G cf (.cons a r) s M) Q := by
  show Run ((evS G cf a s M).bind _) Q
  rw [run_bind]
  refine h.mono fun q hq => ?_
  obtain ⟨fl, s', M'⟩ := q
  cases fl with
  | nx => exact hq
  | bk => exact run_ok.mpr hq
  | ct => exact run_ok.mpr hq
  | rt d => exact run_ok.mpr hq
theorem run_fr {G : Mdl} {cf : Cf} {t : Tg} {it : It} {b : Ss} {s : Ev} {M : Mem} {Q : Fl × Ev × Mem → Prop} (h : Run (evI G cf it s M) fun p => Run (forX p.1 (evG G cf t) (fun s M => evSs G cf b s M) wf 0 s p.2) Q) : Run (evS G cf (.fr t it b) s M) Q := by
  show Run ((evI G cf it s M).bind _) Q
  rw [run_bind]
  exact h
theorem run_nil {G : Mdl} {cf : Cf} {s : Ev} {M : Mem} {Q : Fl × Ev × Mem → Prop} (h : Q (.nx, s, M)) : Run (evSs G cf .nil s M) Q := run_ok.mpr h
theorem run_endF {r : RS} {Q : D × Mem → Prop} (h : Run r fun q => match q.1 with | .rt d => Q (d, q.2.2) | .nx => Q (.non, q.2.2) | _ => False) : Run (endF r) Q := by
  unfold endF
  rw [run_bind]
  refine h.mono fun q hq => ?_
  obtain ⟨fl, s', M'⟩ := q
  cases fl with
  | nx => exact run_ok.mpr hq
  | rt d => exact run_ok.mpr hq
  | bk => exact hq.elim
  | ct => exact hq.elim
theorem run_call {G : Mdl} {n f : Nat} {F : Fn} {M : Mem} {Q : D × Mem → Prop} (k : List D) (hF : G.fns[f]? = some F) (hl : k.length = F.ps.length)
    (h : Run (evSs G (callF G n) F.body (k.map some ++ List.replicate (F.names.length - F.ps.length) none) M) fun q => match q.1 with | .rt d => Q (d, q.2.2) | .nx => Q (.non, q.2.2) | _ => False) : Run (callF G (n + 1) f k M) Q := by
  have e : callF G (n + 1) f k M = R.when (k.length = F.ps.length) (endF (evSs G (callF G n) F.body (k.map some ++ List.replicate (F.names.length - F.ps.length) none) M)) := by
    show (match G.fns[f]? with | some F => R.when (k.length = F.ps.length) (endF (evSs G (callF G n) F.body (k.map some ++ List.replicate (F.names.length - F.ps.length) none) M)) | none => .bad) = _
    rw [hF]
  rw [e, run_when]
  exact ⟨hl, run_endF h⟩

/-! ### loops over told items -/
theorem wf_eq : wf = 1099511627776 := by unfold wf; rfl
/-- a walk over told items: I, by how many are done -/
theorem run_for {xs : List D} {set : D → Ev → Mem → R (Ev × Mem)} {b : Ev → Mem → RS} {Q : Fl × Ev × Mem → Prop} (I : Nat → Ev → Mem → Prop) (hl : xs.length < 2 ^ 30) {s : Ev} {M : Mem} (h0 : I 0 s M)
    (hs : ∀ i x s M, xs[i]? = some x → I i s M → Run (set x s M) fun p => Run (b p.1 p.2) fun q => match q.1 with
      | .nx => I (i + 1) q.2.1 q.2.2
      | .ct => I (i + 1) q.2.1 q.2.2
      | .bk => Q (.nx, q.2.1, q.2.2)
      | .rt d => Q (.rt d, q.2.1, q.2.2))
    (hd : ∀ s M, I xs.length s M → Q (.nx, s, M)) : Run (forX (.its xs) set b wf 0 s M) Q := by
  have key : ∀ (k i : Nat) (s : Ev) (M : Mem), i ≤ xs.length → xs.length - i < k → I i s M → Run (forX (.its xs) set b k i s M) Q := by
    intro k
    induction k with
    | zero => intro i s M _ h _; omega
    | succ k ih =>
      intro i s M hi hk hI
      show Run (R.of (some xs[i]?) _) Q
      rw [run_of]
      refine ⟨_, rfl, ?_⟩
      cases e : xs[i]? with
      | none =>
        have : i = xs.length := by have := List.getElem?_eq_none_iff.mp e; omega
        subst this
        exact run_ok.mpr (hd s M hI)
      | some x =>
        have hlt := (List.getElem?_eq_some_iff.mp e).1
        show Run ((set x s M).bind _) Q
        rw [run_bind]
        refine (hs i x s M e hI).mono fun p hp => ?_
        rw [run_bind]
        refine hp.mono fun q hq => ?_
        obtain ⟨fl, s', M'⟩ := q
        cases fl with
        | nx => exact ih (i + 1) s' M' (by omega) (by omega) hq
        | ct => exact ih (i + 1) s' M' (by omega) (by omega) hq
        | bk => exact run_ok.mpr hq
        | rt d => exact run_ok.mpr hq
  exact key wf 0 s M (Nat.zero_le _) (by rw [wf_eq]; omega) h0
/-- a list walked that stays as it is -/
theorem run_forL {a : Nat} {xs : List D} {set : D → Ev → Mem → R (Ev × Mem)} {b : Ev → Mem → RS} {Q : Fl × Ev × Mem → Prop} (I : Nat → Ev → Mem → Prop) (hl : xs.length < 2 ^ 30) {s : Ev} {M : Mem} (h0 : I 0 s M)
    (hx : ∀ i s M, I i s M → M[a]? = some (.lst xs))
    (hs : ∀ i x s M, xs[i]? = some x → I i s M → Run (set x s M) fun p => Run (b p.1 p.2) fun q => match q.1 with
      | .nx => I (i + 1) q.2.1 q.2.2
      | .ct => I (i + 1) q.2.1 q.2.2
      | .bk => Q (.nx, q.2.1, q.2.2)
      | .rt d => Q (.rt d, q.2.1, q.2.2))
    (hd : ∀ s M, I xs.length s M → Q (.nx, s, M)) : Run (forX (.live a) set b wf 0 s M) Q := by
  have key : ∀ (k i : Nat) (s : Ev) (M : Mem), i ≤ xs.length → xs.length - i < k → I i s M → Run (forX (.live a) set b k i s M) Q := by
    intro k
    induction k with
    | zero => intro i s M _ h _; omega
    | succ k ih =>
      intro i s M hi hk hI
      have ha : Src.at_ (.live a) M i = some xs[i]? := by
        show (match M[a]? with | some (MO.lst xs) => some xs[i]? | _ => none) = _
        rw [hx i s M hI]
      show Run (R.of (Src.at_ (.live a) M i) _) Q
      rw [ha, run_of]
      refine ⟨_, rfl, ?_⟩
      cases e : xs[i]? with
      | none =>
        have : i = xs.length := by have := List.getElem?_eq_none_iff.mp e; omega
        subst this
        exact run_ok.mpr (hd s M hI)
      | some x =>
        have hlt := (List.getElem?_eq_some_iff.mp e).1
        show Run ((set x s M).bind _) Q
        rw [run_bind]
        refine (hs i x s M e hI).mono fun p hp => ?_
        rw [run_bind]
        refine hp.mono fun q hq => ?_
        obtain ⟨fl, s', M'⟩ := q
        cases fl with
        | nx => exact ih (i + 1) s' M' (by omega) (by omega) hq
        | ct => exact ih (i + 1) s' M' (by omega) (by omega) hq
        | bk => exact run_ok.mpr hq
        | rt d => exact run_ok.mpr hq
  exact key wf 0 s M (Nat.zero_le _) (by rw [wf_eq]; omega) h0
/-- a comprehension over told items: I, by how many are done and what is made -/
theorem run_comp {xs : List D} {set : D → Ev → Mem → R (Ev × Mem)} {cond : Ev → Mem → R (Bool × Mem)} {elt : Ev → Mem → RD} {s : Ev} {Q : List D × Mem → Prop} (I : Nat → Mem → List D → Prop) (hl : xs.length < 2 ^ 24) {M : Mem} (h0 : I 0 M [])
    (hs : ∀ i x M acc, xs[i]? = some x → acc.length ≤ i → I i M acc → Run (set x s M) fun p => Run (cond p.1 p.2) fun q => match q.1 with
      | true => Run (elt p.1 q.2) fun r => I (i + 1) r.2 (acc ++ [r.1])
      | false => I (i + 1) q.2 acc)
    (hd : ∀ M acc, acc.length ≤ xs.length → I xs.length M acc → Q (acc, M)) : Run (compX (.its xs) set cond elt s wf 0 M []) Q := by
  have key : ∀ (k i : Nat) (M : Mem) (acc : List D), i ≤ xs.length → xs.length - i < k → acc.length ≤ i → I i M acc → Run (compX (.its xs) set cond elt s k i M acc) Q := by
    intro k
    induction k with
    | zero => intro i M acc _ h; omega
    | succ k ih =>
      intro i M acc hi hk ha hI
      show Run (R.of (some xs[i]?) _) Q
      rw [run_of]
      refine ⟨_, rfl, ?_⟩
      cases e : xs[i]? with
      | none =>
        have : i = xs.length := by have := List.getElem?_eq_none_iff.mp e; omega
        subst this
        exact run_ok.mpr (hd M acc ha hI)
      | some x =>
        have hlt := (List.getElem?_eq_some_iff.mp e).1
        show Run ((turnC set cond elt x s M acc).bind _) Q
        rw [run_bind]
        unfold turnC
        rw [run_bind]
        refine (hs i x M acc e ha hI).mono fun p hp => ?_
        rw [run_bind]
        refine hp.mono fun q hq => ?_
        obtain ⟨b, M'⟩ := q
        cases b with
        | true =>
          show Run ((elt p.1 M').bind _) _
          rw [run_bind]
          refine Run.mono hq fun r hr => ?_
          rw [run_when]
          exact ⟨by rw [sizeLine_eq]; omega, run_ok.mpr (ih (i + 1) _ _ (by omega) (by omega) (by rw [List.length_append, List.length_singleton]; omega) hr)⟩
        | false => exact run_ok.mpr (ih (i + 1) M' acc (by omega) (by omega) (Nat.le_succ_of_le ha) hq)
  exact key wf 0 M [] (Nat.zero_le _) (by rw [wf_eq]; omega) (Nat.le_refl _) h0
/-- .. over a list that stays as it is -/
theorem run_compL {a : Nat} {xs : List D} {set : D → Ev → Mem → R (Ev × Mem)} {cond : Ev → Mem → R (Bool × Mem)} {elt : Ev → Mem → RD} {s : Ev} {Q : List D × Mem → Prop} (I : Nat → Mem → List D → Prop) (hl : xs.length < 2 ^ 24) {M : Mem} (h0 : I 0 M [])
    (hx : ∀ i M acc, I i M acc → M[a]? = some (.lst xs))
    (hs : ∀ i x M acc, xs[i]? = some x → acc.length ≤ i → I i M acc → Run (set x s M) fun p => Run (cond p.1 p.2) fun q => match q.1 with
      | true => Run (elt p.1 q.2) fun r => I (i + 1) r.2 (acc ++ [r.1])
      | false => I (i + 1) q.2 acc)
    (hd : ∀ M acc, acc.length ≤ xs.length → I xs.length M acc → Q (acc, M)) : Run (compX (.live a) set cond elt s wf 0 M []) Q := by
  have key : ∀ (k i : Nat) (M : Mem) (acc : List D), i ≤ xs.length → xs.length - i < k → acc.length ≤ i → I i M acc → Run (compX (.live a) set cond elt s k i M acc) Q := by
    intro k
    induction k with
    | zero => intro i M acc _ h; omega
    | succ k ih =>
      intro i M acc hi hk ha hI
      have hat : Src.at_ (.live a) M i = some xs[i]? := by
        show (match M[a]? with | some (MO.lst xs) => some xs[i]? | _ => none) = _
        rw [hx i M acc hI]
      show Run (R.of (Src.at_ (.live a) M i) _) Q
      rw [hat, run_of]
      refine ⟨_, rfl, ?_⟩
      cases e : xs[i]? with
      | none =>
        have : i = xs.length := by have := List.getElem?_eq_none_iff.mp e; omega
        subst this
        exact run_ok.mpr (hd M acc ha hI)
      | some x =>
        have hlt := (List.getElem?_eq_some_iff.mp e).1
        show Run ((turnC set cond elt x s M acc).bind _) Q
        rw [run_bind]
        unfold turnC
        rw [run_bind]
        refine (hs i x M acc e ha hI).mono fun p hp => ?_
        rw [run_bind]
        refine hp.mono fun q hq => ?_
        obtain ⟨b, M'⟩ := q
        cases b with
        | true =>
          show Run ((elt p.1 M').bind _) _
          rw [run_bind]
          refine Run.mono hq fun r hr => ?_
          rw [run_when]
          exact ⟨by rw [sizeLine_eq]; omega, run_ok.mpr (ih (i + 1) _ _ (by omega) (by omega) (by rw [List.length_append, List.length_singleton]; omega) hr)⟩
        | false => exact run_ok.mpr (ih (i + 1) M' acc (by omega) (by omega) (Nat.le_succ_of_le ha) hq)
  exact key wf 0 M [] (Nat.zero_le _) (by rw [wf_eq]; omega) (Nat.le_refl _) h0

/-! ### memory that grows, but for one object -/
def Gr (a : Nat) (M M' : Mem) : Prop := ∀ i o, i ≠ a → M[i]? = some o → M'[i]? = some o
theorem Gr.refl {a : Nat} {M : Mem} : Gr a M M := fun _ _ _ h => h
theorem Gr.trans {a : Nat} {M M' M2 : Mem} (h : Gr a M M') (k : Gr a M' M2) : Gr a M M2 := fun i o ne e => k i o ne (h i o ne e)
theorem Gr.set {a : Nat} {M : Mem} {o : MO} : Gr a M (M.set a o) := fun i u ne e => by rw [List.getElem?_set_ne (Ne.symm ne)]; exact e
theorem Gr.new {a : Nat} {M : Mem} {o : MO} : Gr a M (M ++ [o]) := fun i u _ e => by rw [List.getElem?_append_left (List.getElem?_eq_some_iff.mp e).1]; exact e
theorem at_new {M : Mem} {o : MO} : (M ++ [o])[M.length]? = some o := by rw [List.getElem?_append_right (Nat.le_refl _), Nat.sub_self]; rfl
theorem at_set {M : Mem} {a : Nat} {u o : MO} (h : M[a]? = some u) : (M.set a o)[a]? = some o := List.getElem?_set_self (List.getElem?_eq_some_iff.mp h).1
mutual
theorem Py.gr {a : Nat} {M M' : Mem} (h : Gr a M M') (ha : ∀ xs, M[a]? ≠ some (.lst xs)) : ∀ {d : D} {p : PyData}, Py M d p → Py M' d p
  | _, _, .non => .non
  | _, _, .bl b => .bl b
  | _, _, .int i => .int i
  | _, _, .str x => .str x
  | _, _, .tup k => .tup (PyAll.gr h ha k)
  | _, _, .lst e k => .lst (h _ _ (fun z => ha _ (z ▸ e)) e) (PyAll.gr h ha k)
  | _, _, .frl k => .frl (PyAll.gr h ha k)
theorem PyAll.gr {a : Nat} {M M' : Mem} (h : Gr a M M') (ha : ∀ xs, M[a]? ≠ some (.lst xs)) : ∀ {d : List D} {p : List PyData}, PyAll M d p → PyAll M' d p
  | _, _, .nil => .nil
  | _, _, .cons k ks => .cons (Py.gr h ha k) (PyAll.gr h ha ks)
end

/-! ### how long a text is shown -/
mutual
def sw : PyData → Nat
  | .none => 4
  | .bool _ => 5
  | .int i => i.natAbs.log2 + 2
  | .str x => 10 * x.length + 2
  | .list xs => swAll xs + 2
  | .tuple xs => swAll xs + 3
  | .dict _ => 0
def swAll : List PyData → Nat
  | [] => 0
  | x :: xs => sw x + 2 + swAll xs
end
theorem textFrom_le : ∀ (ts : List Str) (k : Nat) (acc : Str), (textFrom k acc ts).length ≤ acc.length + (ts.map fun t => t.length + 2).sum
  | [], k, acc => by show acc.length ≤ _; omega
  | t :: ts, k, acc => by
    have ih := textFrom_le ts (k + 1) (acc ++ (if k > 0 then ", " else "" : String) ++ t)
    show (textFrom (k + 1) (acc ++ (if k > 0 then ", " else "" : String) ++ t) ts).length ≤ _
    rw [Str.length_append, Str.length_append] at ih
    have : ((if k > 0 then ", " else "" : String) : Str).length ≤ 2 := by split <;> decide
    rw [List.map_cons, List.sum_cons]
    omega
theorem join2_le : ∀ (ts : List Str), (Str.join ", " ts).length ≤ (ts.map fun t => t.length + 2).sum
  | [] => by show (0 : Nat) ≤ _; omega
  | [x] => by show x.length ≤ _; rw [List.map_cons, List.sum_cons]; omega
  | x :: y :: r => by
    have ih := join2_le (y :: r)
    show (x ++ ", " ++ Str.join ", " (y :: r)).length ≤ _
    rw [Str.length_append, Str.length_append, List.map_cons, List.sum_cons]
    have : ((", " : String) : Str).length = 2 := rfl
    omega
mutual
theorem shown_le : ∀ {p : PyData}, p.showable = true → p.canLay0 = true → p.shown.length ≤ sw p
  | .none, _, _ => by show (("None" : String) : Str).length ≤ 4; decide
  | .bool b, _, _ => by show ((if b then "True" else "False" : Str)).length ≤ 5; cases b <;> decide
  | .int i, h, _ => by
    have := int_text_length_le (a := i) (k := i.natAbs.log2 + 1) (by omega) (by omega)
    show (Str.ofString (toString i)).length ≤ i.natAbs.log2 + 2
    rw [Str.ofString_eq_toList]
    show (List.toArray _).size ≤ _
    rw [List.size_toArray, List.length_map]
    exact this
  | .str x, _, h => by
    have h : PyData.strOk x = true := h
    refine StrLaws.reprText_len x fun c hc => ?_
    have : c < 0x110000 := by
      unfold PyData.strOk at h
      rw [Array.all_eq_true'] at h
      simpa using h c (by simpa using hc)
    omega
  | .list xs, h, k => by
    have ih := shownAll_le (p := xs) h k
    show (textFrom 0 "[" (PyData.shownAll xs) ++ "]").length ≤ swAll xs + 2
    rw [Str.length_append]
    have h1 := textFrom_le (PyData.shownAll xs) 0 "["
    have e1 : (("[" : String) : Str).length = 1 := rfl
    have e2 : (("]" : String) : Str).length = 1 := rfl
    omega
  | .tuple xs, h, k => by
    have ih := shownAll_le (p := xs) h k
    show (tupleText (PyData.shownAll xs)).length ≤ swAll xs + 3
    unfold tupleText
    rw [Str.length_append, Str.length_append]
    have h1 := join2_le (PyData.shownAll xs)
    have e1 : (("(" : String) : Str).length = 1 := rfl
    have e3 : (((if (PyData.shownAll xs).length == 1 then ",)" else ")" : String) : Str)).length ≤ 2 := by split <;> decide
    omega
  | .dict _, _, k => absurd (show false = true from k) Bool.false_ne_true
theorem shownAll_le : ∀ {p : List PyData}, PyData.showableAll p = true → PyData.canLayAll0 p = true → ((PyData.shownAll p).map fun t => t.length + 2).sum ≤ swAll p
  | [], _, _ => Nat.le_refl _
  | x :: xs, h, k => by
    have h : (x.showable && PyData.showableAll xs) = true := h
    have k : (x.canLay0 && PyData.canLayAll0 xs) = true := k
    rw [Bool.and_eq_true] at h k
    have h1 := shown_le h.1 k.1
    have h2 := shownAll_le h.2 k.2
    show (((x.shown :: PyData.shownAll xs).map fun t => t.length + 2)).sum ≤ sw x + 2 + swAll xs
    rw [List.map_cons, List.sum_cons]
    omega
end
/-! ### ints below a bound of bits -/
mutual
def low (k : Nat) : PyData → Bool
  | .int i => decide (i.natAbs.log2 < k)
  | .list xs => lowAll k xs
  | .tuple xs => lowAll k xs
  | .dict _ => false
  | _ => true
def lowAll (k : Nat) : List PyData → Bool
  | [] => true
  | x :: xs => low k x && lowAll k xs
end
mutual
theorem low_show {k : Nat} (hk : k ≤ 1920) : ∀ {p : PyData}, low k p = true → p.showable = true
  | .none, _ => rfl
  | .bool _, _ => rfl
  | .str _, _ => rfl
  | .int i, h => by
    have h : decide (i.natAbs.log2 < k) = true := h
    exact decide_eq_true (Nat.lt_of_lt_of_le (of_decide_eq_true h) hk)
  | .list xs, h => lowAll_show hk (p := xs) h
  | .tuple xs, h => lowAll_show hk (p := xs) h
  | .dict _, h => absurd h Bool.false_ne_true
theorem lowAll_show {k : Nat} (hk : k ≤ 1920) : ∀ {p : List PyData}, lowAll k p = true → PyData.showableAll p = true
  | [], _ => rfl
  | x :: xs, h => by
    have h : (low k x && lowAll k xs) = true := h
    rw [Bool.and_eq_true] at h
    show (x.showable && PyData.showableAll xs) = true
    rw [low_show hk h.1, lowAll_show hk h.2]; rfl
end
mutual
theorem low_mono {k k' : Nat} (hk : k ≤ k') : ∀ {p : PyData}, low k p = true → low k' p = true
  | .none, _ => rfl
  | .bool _, _ => rfl
  | .str _, _ => rfl
  | .int i, h => by
    have h : decide (i.natAbs.log2 < k) = true := h
    exact decide_eq_true (Nat.lt_of_lt_of_le (of_decide_eq_true h) hk)
  | .list xs, h => lowAll_mono hk (p := xs) h
  | .tuple xs, h => lowAll_mono hk (p := xs) h
  | .dict _, h => absurd h Bool.false_ne_true
theorem lowAll_mono {k k' : Nat} (hk : k ≤ k') : ∀ {p : List PyData}, lowAll k p = true → lowAll k' p = true
  | [], _ => rfl
  | x :: xs, h => by
    have h : (low k x && lowAll k xs) = true := h
    rw [Bool.and_eq_true] at h
    show (low k' x && lowAll k' xs) = true
    rw [low_mono hk h.1, lowAll_mono hk h.2]; rfl
end
end Cp

/-! Plain: data with a weight; steps by simp. -/
namespace Cp
open PySem L2

/-! ### data -/
def Dat (M : Mem) (d : D) (c h k : Nat) : Prop := ∃ p, Py M d p ∧ low k p = true ∧ p.canLay0 = true ∧ p.depth ≤ h ∧ sw p ≤ c
def DatL (M : Mem) (xs : List D) (c h k : Nat) : Prop := ∃ ps, PyAll M xs ps ∧ lowAll k ps = true ∧ PyData.canLayAll0 ps = true ∧ PyData.depthAll ps ≤ h ∧ swAll ps ≤ c
section
variable {M M' : Mem} {d : D} {xs ys : List D} {c c' h h' lb : Nat}
theorem Dat.mono (k : Dat M d c h lb) (e : c ≤ c') (f : h ≤ h') : Dat M d c' h' lb := let ⟨p, h1, h2, h3, h4, h5⟩ := k; ⟨p, h1, h2, h3, Nat.le_trans h4 f, Nat.le_trans h5 e⟩
theorem DatL.mono (k : DatL M xs c h lb) (e : c ≤ c') (f : h ≤ h') : DatL M xs c' h' lb := let ⟨p, h1, h2, h3, h4, h5⟩ := k; ⟨p, h1, h2, h3, Nat.le_trans h4 f, Nat.le_trans h5 e⟩
theorem Dat.gr {a : Nat} (k : Dat M d c h lb) (g : Gr a M M') (ha : ∀ xs, M[a]? ≠ some (.lst xs)) : Dat M' d c h lb := let ⟨p, h1, h2⟩ := k; ⟨p, h1.gr g ha, h2⟩
theorem DatL.gr {a : Nat} (k : DatL M xs c h lb) (g : Gr a M M') (ha : ∀ xs, M[a]? ≠ some (.lst xs)) : DatL M' xs c h lb := let ⟨p, h1, h2⟩ := k; ⟨p, h1.gr g ha, h2⟩
theorem Dat.non : Dat M .non 4 0 lb := ⟨.none, .non, rfl, rfl, Nat.le_refl _, Nat.le_refl _⟩
theorem Dat.bl (b : Bool) : Dat M (.bl b) 5 0 lb := ⟨.bool b, .bl b, rfl, rfl, Nat.le_refl _, Nat.le_refl _⟩
theorem Dat.int {i : Int} (w : i.natAbs.log2 < lb) : Dat M (.int i) (i.natAbs.log2 + 2) 0 lb := ⟨.int i, .int i, decide_eq_true w, rfl, Nat.le_refl _, Nat.le_refl _⟩
theorem Dat.int' {i : Int} {k : Nat} (w : i.natAbs.log2 < k) (hk : k ≤ lb) : Dat M (.int i) (k + 1) 0 lb := (Dat.int (by omega)).mono (by omega) (Nat.le_refl _)
theorem Dat.str {x : Str} (w : PyData.strOk x = true) : Dat M (.str x) (10 * x.length + 2) 0 lb := ⟨.str x, .str x, rfl, w, Nat.le_refl _, Nat.le_refl _⟩
theorem Dat.tup (k : DatL M xs c h lb) : Dat M (.tup xs) (c + 3) (h + 1) lb := let ⟨p, h1, h2, h3, h4, h5⟩ := k; ⟨.tuple p, .tup h1, h2, h3, Nat.succ_le_succ h4, Nat.add_le_add_right h5 3⟩
theorem Dat.lst {a : Nat} (e : M[a]? = some (.lst xs)) (k : DatL M xs c h lb) : Dat M (.ref a) (c + 2) (h + 1) lb := let ⟨p, h1, h2, h3, h4, h5⟩ := k; ⟨.list p, .lst e h1, h2, h3, Nat.succ_le_succ h4, Nat.add_le_add_right h5 2⟩
theorem DatL.nil : DatL M [] 0 0 lb := ⟨[], .nil, rfl, rfl, Nat.le_refl _, Nat.le_refl _⟩
theorem DatL.cons (k : Dat M d c h lb) (l : DatL M xs c' h' lb) : DatL M (d :: xs) (c + 2 + c') (max h h') lb := by
  obtain ⟨p, h1, h2, h3, h4, h5⟩ := k
  obtain ⟨q, k1, k2, k3, k4, k5⟩ := l
  exact ⟨p :: q, .cons h1 k1, by show (_ && _) = true; rw [h2, k2]; rfl, by show (_ && _) = true; rw [h3, k3]; rfl, by show max _ _ ≤ _; omega, by show sw p + 2 + swAll q ≤ _; omega⟩
theorem showAll_app {lb : Nat} : ∀ {p q : List PyData}, lowAll lb (p ++ q) = (lowAll lb p && lowAll lb q)
  | [], q => rfl
  | x :: p, q => by show (_ && lowAll lb (p ++ q)) = ((_ && lowAll lb p) && _); rw [showAll_app, Bool.and_assoc]
theorem layAll_app : ∀ {p q : List PyData}, PyData.canLayAll0 (p ++ q) = (PyData.canLayAll0 p && PyData.canLayAll0 q)
  | [], q => rfl
  | x :: p, q => by show (_ && PyData.canLayAll0 (p ++ q)) = ((_ && PyData.canLayAll0 p) && _); rw [layAll_app, Bool.and_assoc]
theorem depthAll_app : ∀ {p q : List PyData}, PyData.depthAll (p ++ q) = max (PyData.depthAll p) (PyData.depthAll q)
  | [], q => by show PyData.depthAll q = max 0 (PyData.depthAll q); omega
  | x :: p, q => by show max _ (PyData.depthAll (p ++ q)) = max (max _ (PyData.depthAll p)) _; rw [depthAll_app]; omega
theorem swAll_app : ∀ {p q : List PyData}, swAll (p ++ q) = swAll p + swAll q
  | [], q => by show swAll q = 0 + swAll q; omega
  | x :: p, q => by show _ + swAll (p ++ q) = (_ + swAll p) + _; rw [swAll_app]; omega
theorem DatL.append (k : DatL M xs c h lb) (l : DatL M ys c' h' lb) : DatL M (xs ++ ys) (c + c') (max h h') lb := by
  obtain ⟨p, h1, h2, h3, h4, h5⟩ := k
  obtain ⟨q, k1, k2, k3, k4, k5⟩ := l
  exact ⟨p ++ q, h1.append k1, by rw [showAll_app, h2, k2]; rfl, by rw [layAll_app, h3, k3]; rfl, by rw [depthAll_app]; omega, by rw [swAll_app]; omega⟩
theorem DatL.split : ∀ {xs ys : List D} {c : Nat}, DatL M (xs ++ ys) c h lb → ∃ c1 c2, DatL M xs c1 h lb ∧ DatL M ys c2 h lb ∧ c1 + c2 ≤ c
  | [], ys, c, k => ⟨0, c, DatL.nil.mono (Nat.le_refl _) (Nat.zero_le _), k, by omega⟩
  | x :: xs, ys, c, ⟨ps, h1, h2, h3, h4, h5⟩ => by
    cases h1 with
    | @cons _ p _ ps g1 g2 =>
      have h2 : (low lb p && lowAll lb ps) = true := h2
      have h3 : (p.canLay0 && PyData.canLayAll0 ps) = true := h3
      have h4 : max p.depth (PyData.depthAll ps) ≤ h := h4
      have h5 : sw p + 2 + swAll ps ≤ c := h5
      rw [Bool.and_eq_true] at h2 h3
      obtain ⟨c1, c2, a1, a2, a3⟩ := DatL.split (xs := xs) (ys := ys) (c := swAll ps) ⟨ps, g2, h2.2, h3.2, by omega, Nat.le_refl _⟩
      exact ⟨sw p + 2 + c1, c2, (DatL.cons ⟨p, g1, h2.1, h3.1, (by omega : p.depth ≤ h), Nat.le_refl _⟩ a1).mono (Nat.le_refl _) (by omega), a2, by omega⟩
theorem DatL.take (k : DatL M xs c h lb) (n : Nat) : DatL M (xs.take n) c h lb := by
  rw [← List.take_append_drop n xs] at k
  obtain ⟨c1, c2, a1, _, a3⟩ := k.split
  exact a1.mono (by omega) (Nat.le_refl _)
theorem DatL.drop (k : DatL M xs c h lb) (n : Nat) : DatL M (xs.drop n) c h lb := by
  rw [← List.take_append_drop n xs] at k
  obtain ⟨c1, c2, _, a1, a3⟩ := k.split
  exact a1.mono (by omega) (Nat.le_refl _)
theorem DatL.cut (k : DatL M xs c h lb) (lo hi : Option Int) : DatL M (cutL xs lo hi) c h lb := (k.drop _).take _
theorem DatL.head (k : DatL M (d :: xs) c h lb) : Dat M d c h lb ∧ DatL M xs c h lb := by
  obtain ⟨ps, h1, h2, h3, h4, h5⟩ := k
  cases h1 with
  | @cons _ p _ ps g1 g2 =>
    have h2 : (low lb p && lowAll lb ps) = true := h2
    have h3 : (p.canLay0 && PyData.canLayAll0 ps) = true := h3
    have h4 : max p.depth (PyData.depthAll ps) ≤ h := h4
    have h5 : sw p + 2 + swAll ps ≤ c := h5
    rw [Bool.and_eq_true] at h2 h3
    exact ⟨⟨p, g1, h2.1, h3.1, by omega, by omega⟩, ps, g2, h2.2, h3.2, by omega, by omega⟩
theorem DatL.get : ∀ {xs : List D} {i : Nat}, DatL M xs c h lb → xs[i]? = some d → Dat M d c h lb
  | [], _, _, e => by simp at e
  | x :: xs, 0, k, e => by simp at e; subst e; exact k.head.1
  | x :: xs, i + 1, k, e => DatL.get (xs := xs) (i := i) k.head.2 (by simpa using e)
theorem DatL.rev : ∀ {xs : List D} {c : Nat}, DatL M xs c h lb → DatL M xs.reverse c h lb
  | [], _, k => k
  | x :: xs, c, ⟨ps, h1, h2, h3, h4, h5⟩ => by
    cases h1 with
    | @cons _ p _ ps g1 g2 =>
      have h2 : (low lb p && lowAll lb ps) = true := h2
      have h3 : (p.canLay0 && PyData.canLayAll0 ps) = true := h3
      have h4 : max p.depth (PyData.depthAll ps) ≤ h := h4
      have h5 : sw p + 2 + swAll ps ≤ c := h5
      rw [Bool.and_eq_true] at h2 h3
      rw [List.reverse_cons]
      have a := DatL.rev (xs := xs) (c := swAll ps) ⟨ps, g2, h2.2, h3.2, by omega, Nat.le_refl _⟩
      exact (a.append (DatL.cons ⟨p, g1, h2.1, h3.1, (by omega : p.depth ≤ h), Nat.le_refl _⟩ DatL.nil)).mono (by omega) (by omega)
theorem atI_mem {α : Type} {xs : List α} {i : Int} (h0 : 0 ≤ i) (h1 : i < xs.length) : ∃ x, atI xs i = some x ∧ xs[i.toNat]? = some x := by
  have hl : i.toNat < xs.length := by omega
  have : atI xs i = xs[i.toNat]? := by
    unfold atI ixN
    rw [if_pos h0, if_pos h1]
    rfl
  exact ⟨xs[i.toNat], by rw [this]; exact List.getElem?_eq_getElem hl, List.getElem?_eq_getElem hl⟩
theorem Dat.ty (k : Dat M d c h lb) : ∃ u, tyD M d = some u := by
  obtain ⟨p, h1, _⟩ := k
  cases h1 with
  | lst e _ => exact ⟨"list", by show (match M[_]? with | some (MO.lst _) => some "list" | some (MO.dct _) => some "dict" | none => none) = _; rw [e]⟩
  | _ => exact ⟨_, rfl⟩
end
/-! ### repr, == -/
theorem run_repr {M : Mem} {d : D} {c h lb : Nat} {Q : D × Mem → Prop} (k : Dat M d c h lb) (hc : c ≤ 16777216) (hh : h ≤ 64) (hl : lb ≤ 1920) (w : ∀ p, Py M d p → Q (.str p.shown, M)) : Run (biD M .repr [d]) Q := by
  obtain ⟨p, h1, h2, h3, h4, h5⟩ := k
  show Run (R.of (tree M d) _) Q
  rw [run_of]
  refine ⟨p, tree_of h1, ?_⟩
  rw [run_when]
  have h2 := low_show hl h2
  have := shown_le h2 h3
  exact ⟨⟨h2, by omega, by rw [sizeLine_eq]; omega⟩, run_ok.mpr (w p h1)⟩
theorem shaped_str {x : Str} (h : PyData.strOk x = true) : SeqAt.shaped (.str x) = true := by
  unfold SeqAt.shaped
  rw [Bool.and_eq_true]
  exact ⟨h, decide_eq_true (Nat.zero_le _)⟩
/-! ### comprehensions that change nothing -/
theorem fm_take {α β : Type} {f : α → Option β} {xs : List α} {i : Nat} {x : α} (e : xs[i]? = some x) : (xs.take (i + 1)).filterMap f = (xs.take i).filterMap f ++ (f x).toList := by
  rw [List.take_add_one, e, List.filterMap_append]
  cases q : f x with
  | none => simp [q]
  | some y => simp [q]
theorem run_compP {xs : List D} {set : D → Ev → Mem → R (Ev × Mem)} {cond : Ev → Mem → R (Bool × Mem)} {elt : Ev → Mem → RD} {s : Ev} {M : Mem} {Q : List D × Mem → Prop} (f : D → Option D) (hl : xs.length < 2 ^ 24)
    (hs : ∀ x ∈ xs, Run (set x s M) fun p => Run (cond p.1 p.2) fun q => q.2 = M ∧ match q.1 with
      | true => Run (elt p.1 M) fun r => r.2 = M ∧ f x = some r.1
      | false => f x = none)
    (h : Q (xs.filterMap f, M)) : Run (compX (.its xs) set cond elt s wf 0 M []) Q := by
  refine run_comp (fun i M' acc => M' = M ∧ acc = (xs.take i).filterMap f) hl ⟨rfl, rfl⟩ (fun i x M' acc e _ ⟨e1, e2⟩ => ?_) fun M' acc _ ⟨e1, e2⟩ => ?_
  · subst e1
    refine (hs x (List.mem_of_getElem? e)).mono fun p hp => hp.mono fun q ⟨hq, hr⟩ => ?_
    obtain ⟨b, M2⟩ := q
    have hq : M2 = M' := hq
    subst hq
    cases b with
    | true => exact Run.mono hr fun r ⟨r1, r2⟩ => ⟨r1, by rw [fm_take e, r2, e2]; rfl⟩
    | false => exact ⟨rfl, by rw [fm_take e, hr, e2]; exact (List.append_nil _).symm⟩
  · subst e1 e2
    rw [List.take_length]
    exact h
theorem run_compPL {a : Nat} {xs : List D} {set : D → Ev → Mem → R (Ev × Mem)} {cond : Ev → Mem → R (Bool × Mem)} {elt : Ev → Mem → RD} {s : Ev} {M : Mem} {Q : List D × Mem → Prop} (f : D → Option D) (hl : xs.length < 2 ^ 24) (ha : M[a]? = some (.lst xs))
    (hs : ∀ x ∈ xs, Run (set x s M) fun p => Run (cond p.1 p.2) fun q => q.2 = M ∧ match q.1 with
      | true => Run (elt p.1 M) fun r => r.2 = M ∧ f x = some r.1
      | false => f x = none)
    (h : Q (xs.filterMap f, M)) : Run (compX (.live a) set cond elt s wf 0 M []) Q := by
  refine run_compL (xs := xs) (fun i M' acc => M' = M ∧ acc = (xs.take i).filterMap f) hl ⟨rfl, rfl⟩ (fun i M' acc ⟨e, _⟩ => by rw [e]; exact ha) (fun i x M' acc e _ ⟨e1, e2⟩ => ?_) fun M' acc _ ⟨e1, e2⟩ => ?_
  · subst e1
    refine (hs x (List.mem_of_getElem? e)).mono fun p hp => hp.mono fun q ⟨hq, hr⟩ => ?_
    obtain ⟨b, M2⟩ := q
    have hq : M2 = M' := hq
    subst hq
    cases b with
    | true => exact Run.mono hr fun r ⟨r1, r2⟩ => ⟨r1, by rw [fm_take e, r2, e2]; rfl⟩
    | false => exact ⟨rfl, by rw [fm_take e, hr, e2]; exact (List.append_nil _).symm⟩
  · subst e1 e2
    rw [List.take_length]
    exact h
/-- memory that only grows -/
def Gw (M M' : Mem) : Prop := ∀ (i : Nat) (o : MO), M[i]? = some o → M'[i]? = some o
theorem Gw.refl {M : Mem} : Gw M M := fun _ _ h => h
theorem Gw.trans {M M' M2 : Mem} (h : Gw M M') (k : Gw M' M2) : Gw M M2 := fun i o e => k i o (h i o e)
theorem Gw.new {M : Mem} {o : MO} : Gw M (M ++ [o]) := fun i u e => by rw [List.getElem?_append_left (List.getElem?_eq_some_iff.mp e).1]; exact e
theorem Gw.gr {a : Nat} {M M' : Mem} (h : Gw M M') : Gr a M M' := fun i o _ e => h i o e
theorem boolsD_map (bs : List Bool) : boolsD (bs.map D.bl) = some bs := by
  induction bs with
  | nil => rfl
  | cons b bs ih => show (boolsD (bs.map D.bl)).map _ = _; rw [ih]; rfl
theorem Dat.gw {M M' : Mem} {d : D} {c h lb : Nat} (k : Dat M d c h lb) (g : Gw M M') : Dat M' d c h lb := by
  obtain ⟨p, h1, h2⟩ := k
  refine ⟨p, ?_, h2⟩
  -- an index that stands for nothing
  exact h1.gr (a := M.length) g.gr fun xs e => by
    have := (List.getElem?_eq_some_iff.mp e).1
    omega
theorem DatL.gw {M M' : Mem} {d : List D} {c h lb : Nat} (k : DatL M d c h lb) (g : Gw M M') : DatL M' d c h lb := by
  obtain ⟨p, h1, h2⟩ := k
  exact ⟨p, h1.gr (a := M.length) g.gr fun xs e => by
    have := (List.getElem?_eq_some_iff.mp e).1
    omega, h2⟩
theorem Dat.strOk {M : Mem} {x : Str} {c h lb : Nat} (k : Dat M (.str x) c h lb) : PyData.strOk x = true ∧ 10 * x.length + 2 ≤ c := by
  obtain ⟨p, h1, h2, h3, h4, h5⟩ := k
  cases h1
  exact ⟨h3, h5⟩
theorem Dat.tupL {M : Mem} {xs : List D} {c h lb : Nat} (k : Dat M (.tup xs) c h lb) : DatL M xs c h lb := by
  obtain ⟨p, h1, h2, h3, h4, h5⟩ := k
  cases h1 with
  | @tup _ ps k =>
    have h4 : PyData.depthAll ps + 1 ≤ h := h4
    have h5 : swAll ps + 3 ≤ c := h5
    exact ⟨ps, k, h2, h3, by omega, by omega⟩
theorem DatL.len {M : Mem} : ∀ {xs : List D} {c h lb : Nat}, DatL M xs c h lb → 2 * xs.length ≤ c
  | [], _, _, _, _ => Nat.zero_le _
  | x :: xs, c, h, lb, ⟨ps, h1, h2, h3, h4, h5⟩ => by
    cases h1 with
    | @cons _ p _ ps g1 g2 =>
      have h2 : (low lb p && lowAll lb ps) = true := h2
      have h3 : (p.canLay0 && PyData.canLayAll0 ps) = true := h3
      have h4 : max p.depth (PyData.depthAll ps) ≤ h := h4
      have h5 : sw p + 2 + swAll ps ≤ c := h5
      rw [Bool.and_eq_true] at h2 h3
      have := DatL.len (xs := xs) (c := swAll ps) (h := h) ⟨ps, g2, h2.2, h3.2, by omega, Nat.le_refl _⟩
      rw [List.length_cons]; omega
theorem DatL.all {M : Mem} {c h lb : Nat} : ∀ {xs : List D}, (∀ x ∈ xs, Dat M x c h lb) → DatL M xs ((c + 2) * xs.length) h lb
  | [], _ => DatL.nil.mono (Nat.zero_le _) (Nat.zero_le _)
  | x :: xs, w => by
    refine (DatL.cons (w x List.mem_cons_self) (DatL.all fun y hy => w y (List.mem_cons_of_mem _ hy))).mono ?_ (by omega)
    rw [List.length_cons, Nat.mul_succ]; omega
theorem DatL.mem {M : Mem} {c h lb : Nat} {xs : List D} (k : DatL M xs c h lb) : ∀ x ∈ xs, Dat M x c h lb := fun x hx => by
  obtain ⟨i, hi⟩ := List.getElem?_of_mem hx
  exact k.get hi
theorem shaped_of {p : PyData} (h : p.canLay0 = true) (k : p.depth ≤ 64) : SeqAt.shaped p = true := by
  unfold SeqAt.shaped
  rw [Bool.and_eq_true]
  exact ⟨h, decide_eq_true k⟩
theorem eq_nilT {M : Mem} {xs : List D} {c h lb : Nat} (k : DatL M xs c h lb) (hh : h < 64) : eqD M (.tup xs) (.tup []) = some xs.isEmpty := by
  obtain ⟨ps, h1, h2, h3, h4, h5⟩ := k
  rw [eqD_of (.tup h1) (.tup .nil) (shaped_of h3 (by show PyData.depthAll ps + 1 ≤ 64; omega)) (shaped_of rfl (by decide))]
  cases h1 with
  | nil => rfl
  | cons _ _ => rfl
theorem eq_nilL {M : Mem} {a b : Nat} {xs : List D} {c h lb : Nat} (ha : M[a]? = some (.lst xs)) (hb : M[b]? = some (.lst [])) (k : DatL M xs c h lb) (hh : h < 64) : eqD M (.ref a) (.ref b) = some xs.isEmpty := by
  obtain ⟨ps, h1, h2, h3, h4, h5⟩ := k
  rw [eqD_of (.lst ha h1) (.lst hb .nil) (shaped_of h3 (by show PyData.depthAll ps + 1 ≤ 64; omega)) (shaped_of rfl (by decide))]
  cases h1 with
  | nil => rfl
  | cons _ _ => rfl
theorem eq_str {M : Mem} {x y : Str} (hx : PyData.strOk x = true) (hy : PyData.strOk y = true) : eqD M (.str x) (.str y) = some (x == y) := by
  rw [eqD_of (.str x) (.str y) (shaped_of hx (Nat.zero_le _)) (shaped_of hy (Nat.zero_le _))]
  rfl
theorem eq_int {M : Mem} {x y : Int} : eqD M (.int x) (.int y) = some (x == y) := by
  rw [eqD_of (.int x) (.int y) (shaped_of rfl (Nat.zero_le _)) (shaped_of rfl (Nat.zero_le _))]
  rfl
theorem eq_bl {M : Mem} {x y : Bool} : eqD M (.bl x) (.bl y) = some (x == y) := by
  rw [eqD_of (.bl x) (.bl y) (shaped_of rfl (Nat.zero_le _)) (shaped_of rfl (Nat.zero_le _))]
  cases x <;> cases y <;> rfl
theorem Dat.low {M : Mem} {d : D} {c h k k' : Nat} (e : Dat M d c h k) (hk : k ≤ k') : Dat M d c h k' := let ⟨p, h1, h2, h3⟩ := e; ⟨p, h1, low_mono hk h2, h3⟩
theorem DatL.low {M : Mem} {d : List D} {c h k k' : Nat} (e : DatL M d c h k) (hk : k ≤ k') : DatL M d c h k' := let ⟨p, h1, h2, h3⟩ := e; ⟨p, h1, lowAll_mono hk h2, h3⟩
theorem Dat.tupL' {M : Mem} {xs : List D} {c h lb : Nat} (k : Dat M (.tup xs) c h lb) : ∃ c' h', DatL M xs c' h' lb ∧ c' + 3 ≤ c ∧ h' + 1 ≤ h := by
  obtain ⟨p, h1, h2, h3, h4, h5⟩ := k
  cases h1 with
  | @tup _ ps k =>
    have h4 : PyData.depthAll ps + 1 ≤ h := h4
    have h5 : swAll ps + 3 ≤ c := h5
    exact ⟨swAll ps, PyData.depthAll ps, ⟨ps, k, h2, h3, Nat.le_refl _, Nat.le_refl _⟩, by omega, by omega⟩
theorem Dat.lo {M : Mem} {i : Int} {c h lb : Nat} (k : Dat M (.int i) c h lb) : i.natAbs.log2 < lb ∧ i.natAbs.log2 + 2 ≤ c := by
  obtain ⟨p, h1, h2, h3, h4, h5⟩ := k
  cases h1
  exact ⟨of_decide_eq_true h2, h5⟩
/-- one item in the place of another -/
theorem DatL.swap {M : Mem} {xs : List D} {c h lb i : Nat} {x : D} (k : DatL M xs c h lb) (e : xs[i]? = some x) : ∃ c1 c2 c3, DatL M (xs.take i) c1 h lb ∧ Dat M x c2 h lb ∧ DatL M (xs.drop (i + 1)) c3 h lb ∧ c1 + (c2 + 2 + c3) ≤ c := by
  have hi := (List.getElem?_eq_some_iff.mp e).1
  have hx : xs = xs.take i ++ x :: xs.drop (i + 1) := by
    have h1 := List.take_append_drop i xs
    rw [List.drop_eq_getElem_cons hi, (List.getElem?_eq_some_iff.mp e).2] at h1
    exact h1.symm
  rw [hx] at k
  obtain ⟨c1, c2, a1, a2, a3⟩ := k.split
  obtain ⟨ps, g1, g2, g3, g4, g5⟩ := a2
  cases g1 with
  | @cons _ p _ ps h1 h2 =>
    have g2 : (Cp.low lb p && lowAll lb ps) = true := g2
    have g3 : (p.canLay0 && PyData.canLayAll0 ps) = true := g3
    have g4 : max p.depth (PyData.depthAll ps) ≤ h := g4
    have g5 : sw p + 2 + swAll ps ≤ c2 := g5
    rw [Bool.and_eq_true] at g2 g3
    exact ⟨c1, sw p, swAll ps, a1, ⟨p, h1, g2.1, g3.1, by omega, Nat.le_refl _⟩, ⟨ps, h2, g2.2, g3.2, by omega, Nat.le_refl _⟩, by omega⟩
/-! ### what lists stay; some objects out of sight -/
def Gl (M M' : Mem) : Prop := ∀ (i : Nat) (xs : List D), M[i]? = some (.lst xs) → M'[i]? = some (.lst xs)
theorem Gl.refl {M : Mem} : Gl M M := fun _ _ h => h
theorem Gl.trans {M M' M2 : Mem} (h : Gl M M') (k : Gl M' M2) : Gl M M2 := fun i o e => k i o (h i o e)
theorem Gw.gl {M M' : Mem} (h : Gw M M') : Gl M M' := fun i xs e => h i _ e
theorem Gr.gl {a : Nat} {M M' : Mem} (h : Gr a M M') (ha : ∀ xs, M[a]? ≠ some (.lst xs)) : Gl M M' := fun i xs e => h i _ (fun z => ha xs (z ▸ e)) e
mutual
theorem Py.gl {M M' : Mem} (h : Gl M M') : ∀ {d : D} {p : PyData}, Py M d p → Py M' d p
  | _, _, .non => .non
  | _, _, .bl b => .bl b
  | _, _, .int i => .int i
  | _, _, .str x => .str x
  | _, _, .tup k => .tup (PyAll.gl h k)
  | _, _, .lst e k => .lst (h _ _ e) (PyAll.gl h k)
  | _, _, .frl k => .frl (PyAll.gl h k)
theorem PyAll.gl {M M' : Mem} (h : Gl M M') : ∀ {d : List D} {p : List PyData}, PyAll M d p → PyAll M' d p
  | _, _, .nil => .nil
  | _, _, .cons k ks => .cons (Py.gl h k) (PyAll.gl h ks)
end
theorem Dat.gl {M M' : Mem} {d : D} {c h lb : Nat} (k : Dat M d c h lb) (g : Gl M M') : Dat M' d c h lb := let ⟨p, h1, h2⟩ := k; ⟨p, h1.gl g, h2⟩
theorem DatL.gl {M M' : Mem} {d : List D} {c h lb : Nat} (k : DatL M d c h lb) (g : Gl M M') : DatL M' d c h lb := let ⟨p, h1, h2⟩ := k; ⟨p, h1.gl g, h2⟩
/-- the objects of S out of sight -/
def vw (S : Nat → Bool) (M : Mem) : Mem := M.mapIdx fun i o => if S i = true then .dct [] else o
theorem vw_get (S : Nat → Bool) (M : Mem) (i : Nat) : (vw S M)[i]? = (M[i]?).map fun o => if S i = true then .dct [] else o := by
  unfold vw
  rw [List.getElem?_mapIdx]
theorem vw_lst {S : Nat → Bool} {M : Mem} {i : Nat} {xs : List D} : (vw S M)[i]? = some (.lst xs) ↔ S i = false ∧ M[i]? = some (.lst xs) := by
  rw [vw_get]
  cases e : M[i]? with
  | none => simp
  | some o => cases hs : S i <;> simp
theorem vw_gl {S : Nat → Bool} {M M' : Mem} (h : ∀ i xs, S i = false → M[i]? = some (.lst xs) → M'[i]? = some (.lst xs)) : Gl (vw S M) (vw S M') := fun i xs e => by
  rw [vw_lst] at e ⊢
  exact ⟨e.1, h i xs e.1 e.2⟩
theorem vw_self {S : Nat → Bool} {M : Mem} : Gl (vw S M) M := fun i xs e => (vw_lst.mp e).2
theorem Gl.vw {S : Nat → Bool} {M M' : Mem} (h : Gl M M') : Gl (vw S M) (vw S M') := vw_gl fun i xs _ e => h i xs e
/-- fewer out of sight -/
theorem vw_less {S S' : Nat → Bool} {M : Mem} (h : ∀ i, S' i = true → S i = true) : Gl (Cp.vw S M) (Cp.vw S' M) := fun i xs e => by
  rw [vw_lst] at e ⊢
  refine ⟨?_, e.2⟩
  cases q : S' i with
  | false => rfl
  | true => rw [h i q] at e; exact absurd e.1 (by decide)
end Cp

namespace Lw
open PySem L2 Cp
/-! ### the text in the compact form -/
def top (i : Nat) : Stmt := PySem.Challenge.pw_cellpacts_k01_kinds.main.body.getD i (.Pass ⟨0, 0, 0, 0⟩)
def f0 : Fn := { name := "is_number", ps := ["thing"], names := ["thing"], body :=
  (.cons (.ret (.bool true (.cons (.isi (.var 0) "int") (.cons (.not (.isi (.var 0) "bool")) .nil)))) .nil) }
def f1_1 : Ss := .cons (.ret (.bi .all (.cons (.lc (.cmp .mem (.var 1) (.glob 0)) (.nm 1) (.ex (.var 0)) .nil [1]) .nil))) .nil
def f1 : Fn := { name := "is_word", ps := ["thing"], names := ["thing", "sign"], body :=
  (.cons (.iff (.bool false (.cons (.not (.val (.isi (.var 0) "str"))) (.cons (.not (.val (.chain .le .le (.lit (.int 1)) (.bi .len (.cons (.var 0) .nil)) (.glob 1)))) .nil))) (.cons (.ret (.lit (.bl false))) .nil) .nil) f1_1) }
def f2 : Fn := { name := "is_cells", ps := ["thing"], names := ["thing", "one"], body :=
  (.cons (.ret (.bool true (.cons (.isi (.var 0) "tuple") (.cons (.cmp .gt (.bi .len (.cons (.var 0) .nil)) (.lit (.int 0))) (.cons (.bi .all (.cons (.lc (.call 0 (.cons (.var 1) .nil)) (.nm 1) (.ex (.var 0)) .nil [1]) .nil)) .nil))))) .nil) }
def f3 : Fn := { name := "_law_feed", ps := ["_law_script"], names := ["_law_script"], body :=
  (.cons (.ret (.dic (.cons (.lit (.str "cells")) (.bi .list (.cons (.slc (.var 0) .no (.at (.lit (.int 63)))) .nil)) (.cons (.lit (.str "at")) (.lit (.int 0)) (.cons (.lit (.str "left")) (.lit (.int 0)) (.cons (.lit (.str "count")) (.lit (.int 0)) .nil)))))) .nil) }
def f4_1 : Ss := .cons (.ret (.var 2)) .nil
def f4_2 : Ss := .cons (.asg (.sb (.var 0) (.lit (.str "left"))) (.bin .fdiv (.idx (.var 0) (.lit (.str "left"))) (.var 1))) f4_1
def f4_3 : Ss := .cons (.ret (.bin .mod (.var 4) (.var 1))) .nil
def f4_4 : Ss := .cons (.ret (.bin .mod (.bin .fdiv (.bin .mod (.bin .add (.bin .mul (.var 5) (.var 5)) (.bin .mul (.lit (.int 19)) (.var 5))) (.lit (.int 2147483543))) (.lit (.int 16))) (.var 1))) .nil
def f4_5 : Ss := .cons (.asg (.nm 5) (.bin .mod (.bin .add (.bin .add (.bin .mul (.var 5) (.var 5)) (.bin .mul (.lit (.int 5915587)) (.idx (.var 0) (.lit (.str "count"))))) (.lit (.int 11))) (.lit (.int 2147483549)))) f4_4
def f4_6 : Ss := .cons (.asg (.nm 5) (.bin .mod (.bin .add (.bin .add (.bin .mod (.var 4) (.lit (.int 1000000087))) (.bin .mul (.lit (.int 80021)) (.idx (.var 0) (.lit (.str "count"))))) (.lit (.int 41))) (.lit (.int 2147483579)))) f4_5
def f4_7 : Ss := .cons (.iff (.bool true (.cons (.val (.cmp .ge (.var 4) (.bin .pow (.lit (.int 10)) (.lit (.int 18))))) (.cons (.val (.cmp .lt (.var 3) (.bi .len (.cons (.idx (.var 0) (.lit (.str "cells"))) .nil)))) .nil))) (.cons (.asg (.sb (.var 0) (.lit (.str "left"))) (.bin .fdiv (.var 4) (.var 1))) f4_3) .nil) f4_6
def f4_8 : Ss := .cons (.asg (.nm 4) (.ite (.val (.cmp .ne (.idx (.var 0) (.lit (.str "cells"))) (.lst .nil))) (.idx (.idx (.var 0) (.lit (.str "cells"))) (.bin .mod (.var 3) (.bi .len (.cons (.idx (.var 0) (.lit (.str "cells"))) .nil)))) (.lit (.int 9)))) f4_7
def f4_9 : Ss := .cons (.asg (.sb (.var 0) (.lit (.str "at"))) (.bin .add (.var 3) (.lit (.int 1)))) f4_8
def f4_10 : Ss := .cons (.asg (.nm 3) (.idx (.var 0) (.lit (.str "at")))) f4_9
def f4_11 : Ss := .cons (.iff (.val (.cmp .gt (.idx (.var 0) (.lit (.str "left"))) (.lit (.int 0)))) (.cons (.asg (.nm 2) (.bin .mod (.idx (.var 0) (.lit (.str "left"))) (.var 1))) f4_2) .nil) f4_10
def f4 : Fn := { name := "_law_draw", ps := ["_law_feed_here", "_law_many"], names := ["_law_feed_here", "_law_many", "_law_figure", "_law_at", "_law_cell", "_law_mixed"], body :=
  (.cons (.asg (.sb (.var 0) (.lit (.str "count"))) (.bin .add (.idx (.var 0) (.lit (.str "count"))) (.lit (.int 1)))) f4_11) }
def f5_1 : Ss := .cons (.ret (.bin .add (.bin .add (.slc (.var 1) .no (.at (.var 2))) (.tup (.cons (.call 5 (.cons (.var 0) (.cons (.idx (.var 1) (.var 2)) .nil))) .nil))) (.slc (.var 1) (.at (.bin .add (.var 2) (.lit (.int 1)))) .no))) .nil
def f5_2 : Ss := .cons (.ret (.idx (.bin .add (.var 4) (.lst (.cons (.bin .add (.var 1) (.tup (.cons (.lit .non) .nil))) .nil))) (.var 3))) .nil
def f5_3 : Ss := .cons (.ret (.idx (.lst (.cons (.lit .non) (.cons (.lit (.bl true)) (.cons (.lit (.int 0)) (.cons (.lit (.int 1)) (.cons (.lit (.str "")) (.cons (.tup .nil) (.cons (.lst .nil) (.cons (.neg (.lit (.int 1))) (.cons (.lit (.str "a")) .nil)))))))))) (.var 3))) .nil
def f5_4 : Ss := .cons (.iff (.val (.isi (.var 1) "int")) (.cons (.ret (.idx (.lst (.cons (.bin .add (.var 1) (.lit (.int 1))) (.cons (.bin .sub (.var 1) (.lit (.int 1))) (.cons (.cmp .eq (.var 1) (.lit (.int 1))) (.cons (.bi .str (.cons (.var 1) .nil)) (.cons (.lit .non) (.cons (.tup (.cons (.var 1) .nil)) (.cons (.lit (.int 0)) (.cons (.neg (.lit (.int 1))) (.cons (.bin .pow (.lit (.int 10)) (.lit (.int 60))) .nil)))))))))) (.var 3))) .nil) .nil) f5_3
def f5_5 : Ss := .cons (.iff (.val (.isi (.var 1) "tuple")) (.cons (.asg (.nm 4) (.lst (.cons (.bi .list (.cons (.var 1) .nil)) (.cons (.rev (.var 1)) (.cons (.tup (.cons (.var 1) .nil)) (.cons (.bin .add (.var 1) (.var 1)) (.cons (.tup .nil) (.cons (.lit .non) (.cons (.slc (.var 1) (.at (.lit (.int 1))) .no) (.cons (.slc (.var 1) .no (.at (.neg (.lit (.int 1))))) .nil)))))))))) f5_2) .nil) f5_4
def f5_6 : Ss := .cons (.asg (.nm 3) (.call 4 (.cons (.var 0) (.cons (.lit (.int 9)) .nil)))) f5_5
def f5 : Fn := { name := "_law_bent", ps := ["_law_feed_here", "_law_thing_here"], names := ["_law_feed_here", "_law_thing_here", "_law_at", "_law_mode", "_law_odd"], body :=
  (.cons (.iff (.bool true (.cons (.val (.isi (.var 1) "tuple")) (.cons (.val (.cmp .ne (.var 1) (.tup .nil))) (.cons (.val (.cmp .gt (.call 4 (.cons (.var 0) (.cons (.lit (.int 5)) .nil))) (.lit (.int 0)))) .nil)))) (.cons (.asg (.nm 2) (.call 4 (.cons (.var 0) (.cons (.bi .len (.cons (.var 1) .nil)) .nil)))) f5_1) .nil) f5_6) }
def f6_1 : Ss := .cons (.asg (.nm 3) (.bin .add (.bin .add (.slc (.var 3) .no (.at (.var 4))) (.idx (.var 1) (.call 4 (.cons (.var 0) (.cons (.lit (.int 94)) .nil))))) (.slc (.var 3) (.at (.bin .add (.var 4) (.call 4 (.cons (.var 0) (.cons (.lit (.int 2)) .nil))))) .no))) .nil
def f6_2 : Ss := .cons (.ret (.var 3)) .nil
def f6_3 : Ss := .cons (.iff (.val (.cmp .eq (.call 4 (.cons (.var 0) (.cons (.lit (.int 2)) .nil))) (.lit (.int 0)))) (.cons (.asg (.nm 4) (.call 4 (.cons (.var 0) (.cons (.bin .add (.bi .len (.cons (.var 3) .nil)) (.lit (.int 1))) .nil)))) f6_1) .nil) f6_2
def f6_4 : Ss := .cons (.asg (.nm 3) (.meth .join (.lit (.str "")) (.cons (.lc (.idx (.var 2) (.call 4 (.cons (.var 0) (.cons (.bi .len (.cons (.var 2) .nil)) .nil)))) (.nm 5) (.rg1 (.call 4 (.cons (.var 0) (.cons (.lit (.int 11)) .nil)))) .nil [5]) .nil))) f6_3
def f6_5 : Ss := .cons (.asg (.nm 2) (.idx (.lst (.cons (.lit (.str "abcdefghijklmnopqrstuvwxyz")) (.cons (.var 1) .nil))) (.call 4 (.cons (.var 0) (.cons (.lit (.int 2)) .nil))))) f6_4
def f6 : Fn := { name := "_law_text", ps := ["_law_feed_here"], names := ["_law_feed_here", "_law_signs", "_law_some", "_law_text_here", "_law_at", "_law_k"], body :=
  (.cons (.asg (.nm 1) (.lit (.str " !\"#$&'()*+,-./0123456789:;<=>?@ABCDEFGHIJKLMNOPQRSTUVWXYZ[\\]^_`abcdefghijklmnopqrstuvwxyz{|}~"))) f6_5) }
def f7_1 : Ss := .cons (.ret (.bin .mul (.var 2) (.idx (.lst (.cons (.lit (.int 1)) (.cons (.neg (.lit (.int 1))) .nil))) (.call 4 (.cons (.var 0) (.cons (.lit (.int 2)) .nil)))))) .nil
def f7_2 : Ss := .cons (.fr (.nm 3) (.rg1 (.ite (.val (.cmp .eq (.call 4 (.cons (.var 0) (.cons (.lit (.int 6)) .nil))) (.lit (.int 0)))) (.call 4 (.cons (.var 0) (.cons (.lit (.int 33)) .nil))) (.lit (.int 0)))) (.cons (.asg (.nm 2) (.bin .add (.bin .mul (.var 2) (.bin .pow (.lit (.int 10)) (.lit (.int 6)))) (.call 4 (.cons (.var 0) (.cons (.bin .pow (.lit (.int 10)) (.lit (.int 6))) .nil))))) .nil)) f7_1
def f7_3 : Ss := .cons (.ret (.idx (.var 4) (.call 4 (.cons (.var 0) (.cons (.lit (.int 15)) .nil))))) .nil
def f7_4 : Ss := .cons (.asg (.nm 4) (.lst (.cons (.lit (.bl true)) (.cons (.lit (.bl false)) (.cons (.lit .non) (.cons (.lit (.str "")) (.cons (.lit (.str "a")) (.cons (.lit (.str "abcdefgh")) (.cons (.lit (.str "abcdefghi")) (.cons (.tup .nil) (.cons (.lst .nil) (.cons (.tup (.cons (.lit (.int 0)) .nil)) (.cons (.tup (.cons (.lit (.bl true)) .nil)) (.cons (.lit (.str "A")) (.cons (.lit (.str "a b")) (.cons (.lst (.cons (.lit (.int 0)) .nil)) (.cons (.tup (.cons (.tup (.cons (.lit (.int 0)) .nil)) .nil)) .nil))))))))))))))))) f7_3
def f7_5 : Ss := .cons (.iff (.val (.cmp .eq (.var 1) (.lit (.int 2)))) (.cons (.asg (.nm 2) (.call 4 (.cons (.var 0) (.cons (.lit (.int 60)) .nil)))) f7_2) .nil) f7_4
def f7_6 : Ss := .cons (.iff (.val (.cmp .lt (.var 1) (.lit (.int 2)))) (.cons (.ret (.call 6 (.cons (.var 0) .nil))) .nil) .nil) f7_5
def f7 : Fn := { name := "_law_thing", ps := ["_law_feed_here"], names := ["_law_feed_here", "_law_mode", "_law_number", "_law_k", "_law_odd"], body :=
  (.cons (.asg (.nm 1) (.call 4 (.cons (.var 0) (.cons (.lit (.int 4)) .nil)))) f7_6) }
def f8_1 : Ss := .cons (.ret (.var 4)) .nil
def f8_2 : Ss := .cons (.fr (.nm 6) (.ex (.tup (.cons (.lit (.bl true)) (.cons (.lit .non) (.cons (.lit (.str "1")) (.cons (.lst (.cons (.lit (.int 1)) .nil)) (.cons (.tup (.cons (.lit (.int 1)) .nil)) (.cons (.bin .mul (.bin .pow (.lit (.int 10)) (.lit (.int 60))) (.bin .pow (.lit (.int 10)) (.lit (.int 60)))) .nil)))))))) (.cons (.expr (.meth .append (.var 4) (.cons (.bin .add (.bin .add (.slc (.var 3) .no (.at (.var 5))) (.tup (.cons (.var 6) .nil))) (.slc (.var 3) (.at (.bin .add (.var 5) (.lit (.int 1)))) .no)) .nil))) .nil)) f8_1
def f8_3 : Ss := .cons (.asg (.nm 5) (.call 4 (.cons (.var 0) (.cons (.bi .len (.cons (.var 3) .nil)) .nil)))) f8_2
def f8_4 : Ss := .cons (.asg (.nm 4) (.lst (.cons (.var 3) (.cons (.var 1) (.cons (.bin .add (.var 3) (.var 3)) (.cons (.tup (.cons (.var 3) .nil)) (.cons (.call 5 (.cons (.var 0) (.cons (.var 3) .nil))) (.cons (.call 5 (.cons (.var 0) (.cons (.call 5 (.cons (.var 0) (.cons (.var 3) .nil))) .nil))) .nil)))))))) f8_3
def f8_5 : Ss := .cons (.asg (.nm 3) (.bi .tuple (.cons (.var 1) .nil))) f8_4
def f8_6 : Ss := .cons (.fr (.nm 2) (.rg1 (.bin .add (.lit (.int 1)) (.call 4 (.cons (.var 0) (.cons (.lit (.int 8)) .nil))))) (.cons (.expr (.meth .append (.var 1) (.cons (.idx (.lst (.cons (.bin .sub (.call 4 (.cons (.var 0) (.cons (.lit (.int 9)) .nil))) (.lit (.int 4))) (.cons (.bin .sub (.call 4 (.cons (.var 0) (.cons (.lit (.int 2000)) .nil))) (.lit (.int 999))) (.cons (.bin .sub (.bin .pow (.lit (.int 10)) (.lit (.int 60))) (.var 2)) .nil)))) (.call 4 (.cons (.var 0) (.cons (.lit (.int 3)) .nil)))) .nil))) .nil)) f8_5
def f8 : Fn := { name := "_law_near", ps := ["_law_feed_here"], names := ["_law_feed_here", "_law_some", "_law_k", "_law_cells", "_law_found", "_law_at", "_law_thing_here"], body :=
  (.cons (.asg (.nm 1) (.lst .nil)) f8_6) }
def f9 : Fn := { name := "_law_whole", ps := ["_law_thing_here"], names := ["_law_thing_here"], body :=
  (.cons (.ret (.bool true (.cons (.isi (.var 0) "int") (.cons (.not (.isi (.var 0) "bool")) .nil)))) .nil) }
def f10_1 : Ss := .cons (.ret (.tup (.cons (.call 9 (.cons (.var 0) .nil)) (.cons (.var 1) (.cons (.var 2) .nil))))) .nil
def f10_2 : Ss := .cons (.asg (.nm 2) (.bool true (.cons (.isi (.var 0) "tuple") (.cons (.cmp .ne (.var 0) (.tup .nil)) (.cons (.cmp .eq (.lc (.var 4) (.nm 4) (.ex (.var 0)) (.cons (.not (.val (.call 9 (.cons (.var 4) .nil)))) .nil) [4]) (.lst .nil)) .nil))))) f10_1
def f10_3 : Ss := .cons (.asg (.nm 1) (.bool true (.cons (.var 1) (.cons (.cmp .eq (.lc (.var 3) (.nm 3) (.ex (.var 0)) (.cons (.bool false (.cons (.val (.cmp .lt (.bi .ord (.cons (.var 3) .nil)) (.lit (.int 97)))) (.cons (.val (.cmp .gt (.bi .ord (.cons (.var 3) .nil)) (.lit (.int 122)))) .nil))) .nil) [3]) (.lst .nil)) .nil)))) f10_2
def f10 : Fn := { name := "_law_due", ps := ["_law_thing_here"], names := ["_law_thing_here", "_law_word", "_law_cells", "_law_sign", "_law_one"], body :=
  (.cons (.asg (.nm 1) (.bool true (.cons (.isi (.var 0) "str") (.cons (.chain .lt .lt (.lit (.int 0)) (.bi .len (.cons (.var 0) .nil)) (.lit (.int 9))) .nil)))) f10_3) }
def f11_1 : Ss := .cons (.ret (.cmp .eq (.bi .repr (.cons (.var 4) .nil)) (.var 6))) .nil
def f11_2 : Ss := .cons (.fr (.nm 7) (.ex (.var 4)) (.cons (.iff (.val (.cmp .ne (.bi .repr (.cons (.tup (.cons (.call 0 (.cons (.var 7) .nil)) (.cons (.call 1 (.cons (.var 7) .nil)) (.cons (.call 2 (.cons (.var 7) .nil)) .nil)))) .nil)) (.bi .repr (.cons (.call 10 (.cons (.var 7) .nil)) .nil)))) (.cons (.ret (.lit (.bl false))) .nil) .nil) .nil)) f11_1
def f11_3 : Ss := .cons (.asg (.nm 6) (.bi .repr (.cons (.var 4) .nil))) f11_2
def f11_4 : Ss := .cons (.fr (.nm 5) (.rg1 (.lit (.int 3))) (.cons (.expr (.meth .extend (.var 4) (.cons (.call 8 (.cons (.var 1) .nil)) .nil))) .nil)) f11_3
def f11_5 : Ss := .cons (.asg (.nm 4) (.bin .add (.lc (.call 7 (.cons (.var 1) .nil)) (.nm 5) (.rg1 (.lit (.int 10))) .nil [5]) (.lst (.cons (.var 2) (.cons (.bin .add (.bin .add (.slc (.var 2) .no (.at (.var 3))) (.tup (.cons (.lit .non) .nil))) (.slc (.var 2) (.at (.bin .add (.var 3) (.lit (.int 1)))) .no)) .nil))))) f11_4
def f11_6 : Ss := .cons (.par [2, 3] (.cons (.trg (.lit (.int 60))) (.cons (.call 4 (.cons (.var 1) (.cons (.lit (.int 60)) .nil))) .nil))) f11_5
def f11 : Fn := { name := "law", ps := ["_law_script"], names := ["_law_script", "_law_feed_here", "_law_wide", "_law_at", "_law_things", "_law_k", "_law_before", "_law_thing_here"], body :=
  (.cons (.asg (.nm 1) (.call 3 (.cons (.var 0) .nil))) f11_6) }
def g : Mdl := { con := [("LETTERS", (.str "abcdefghijklmnopqrstuvwxyz")), ("MOST_LETTERS", (.int 8))], fns := [f0, f1, f2, f3, f4, f5, f6, f7, f8, f9, f10, f11] }
theorem m0 : mSs g f0.names (defScope (top 3)) (fun _ => true) f0.body (defBody (top 3)) = true := by decide +kernel
theorem s0 : C8.scC f0.names f0.ps (defScope (top 3)) = true := by decide +kernel
theorem m1 : mSs g f1.names (defScope (top 4)) (fun _ => true) f1.body (defBody (top 4)) = true := by decide +kernel
theorem s1 : C8.scC f1.names f1.ps (defScope (top 4)) = true := by decide +kernel
theorem m2 : mSs g f2.names (defScope (top 5)) (fun _ => true) f2.body (defBody (top 5)) = true := by decide +kernel
theorem s2 : C8.scC f2.names f2.ps (defScope (top 5)) = true := by decide +kernel
theorem m3 : mSs g f3.names (defScope (top 7)) (fun _ => true) f3.body (defBody (top 7)) = true := by decide +kernel
theorem s3 : C8.scC f3.names f3.ps (defScope (top 7)) = true := by decide +kernel
theorem m4 : mSs g f4.names (defScope (top 8)) (fun _ => true) f4.body (defBody (top 8)) = true := by decide +kernel
theorem s4 : C8.scC f4.names f4.ps (defScope (top 8)) = true := by decide +kernel
theorem m5 : mSs g f5.names (defScope (top 9)) (fun _ => true) f5.body (defBody (top 9)) = true := by decide +kernel
theorem s5 : C8.scC f5.names f5.ps (defScope (top 9)) = true := by decide +kernel
theorem m6 : mSs g f6.names (defScope (top 10)) (fun _ => true) f6.body (defBody (top 10)) = true := by decide +kernel
theorem s6 : C8.scC f6.names f6.ps (defScope (top 10)) = true := by decide +kernel
theorem m7 : mSs g f7.names (defScope (top 11)) (fun _ => true) f7.body (defBody (top 11)) = true := by decide +kernel
theorem s7 : C8.scC f7.names f7.ps (defScope (top 11)) = true := by decide +kernel
theorem m8 : mSs g f8.names (defScope (top 12)) (fun _ => true) f8.body (defBody (top 12)) = true := by decide +kernel
theorem s8 : C8.scC f8.names f8.ps (defScope (top 12)) = true := by decide +kernel
theorem m9 : mSs g f9.names (defScope (top 13)) (fun _ => true) f9.body (defBody (top 13)) = true := by decide +kernel
theorem s9 : C8.scC f9.names f9.ps (defScope (top 13)) = true := by decide +kernel
theorem m10 : mSs g f10.names (defScope (top 14)) (fun _ => true) f10.body (defBody (top 14)) = true := by decide +kernel
theorem s10 : C8.scC f10.names f10.ps (defScope (top 14)) = true := by decide +kernel
theorem m11 : mSs g f11.names (defScope (top 15)) (fun _ => true) f11.body (defBody (top 15)) = true := by decide +kernel
theorem s11 : C8.scC f11.names f11.ps (defScope (top 15)) = true := by decide +kernel
section
variable {K : PySem.W.Frag} {mg : Str → Option Value} {h : Heap} {f : Addr} {oc dc pm kV cd ct : Value} {od an : Option Addr} {sl : Array (Option Value)}
theorem d0 (X : K.In h) (N : h.Ns mainGlobals mg) (a : PySem.W.nsIn K mainGlobals "is_number" = some (some (.ref f))) (l : K.lookup f = some ⟨oc, od, .func (PySem.W.fnOf "is_number" "is_number" (defArgs (top 3)) (defBody (top 3)) (defScope (top 3)) .none kV dc pm an cd ct), sl⟩) (c : PySem.W.codeIn K cd "is_number" = true) (k : PySem.W.keepIn K (.ref f) = true) : DefG g K mg f0 :=
  ⟨f, _, _, _, _, _, _, _, _, _, _, _, _, _, _, _, PySem.W.mg_of X N a, k, l, c, (fun_mk (st := top 3) l c k).binds (ps := f0.ps) (fun _ _ _ _ _ _ us hl => match us, hl with | [_], _ => rfl), C8.fnScope_by s0, m0⟩
theorem d1 (X : K.In h) (N : h.Ns mainGlobals mg) (a : PySem.W.nsIn K mainGlobals "is_word" = some (some (.ref f))) (l : K.lookup f = some ⟨oc, od, .func (PySem.W.fnOf "is_word" "is_word" (defArgs (top 4)) (defBody (top 4)) (defScope (top 4)) .none kV dc pm an cd ct), sl⟩) (c : PySem.W.codeIn K cd "is_word" = true) (k : PySem.W.keepIn K (.ref f) = true) : DefG g K mg f1 :=
  ⟨f, _, _, _, _, _, _, _, _, _, _, _, _, _, _, _, PySem.W.mg_of X N a, k, l, c, (fun_mk (st := top 4) l c k).binds (ps := f1.ps) (fun _ _ _ _ _ _ us hl => match us, hl with | [_], _ => rfl), C8.fnScope_by s1, m1⟩
theorem d2 (X : K.In h) (N : h.Ns mainGlobals mg) (a : PySem.W.nsIn K mainGlobals "is_cells" = some (some (.ref f))) (l : K.lookup f = some ⟨oc, od, .func (PySem.W.fnOf "is_cells" "is_cells" (defArgs (top 5)) (defBody (top 5)) (defScope (top 5)) .none kV dc pm an cd ct), sl⟩) (c : PySem.W.codeIn K cd "is_cells" = true) (k : PySem.W.keepIn K (.ref f) = true) : DefG g K mg f2 :=
  ⟨f, _, _, _, _, _, _, _, _, _, _, _, _, _, _, _, PySem.W.mg_of X N a, k, l, c, (fun_mk (st := top 5) l c k).binds (ps := f2.ps) (fun _ _ _ _ _ _ us hl => match us, hl with | [_], _ => rfl), C8.fnScope_by s2, m2⟩
theorem d3 (X : K.In h) (N : h.Ns mainGlobals mg) (a : PySem.W.nsIn K mainGlobals "_law_feed" = some (some (.ref f))) (l : K.lookup f = some ⟨oc, od, .func (PySem.W.fnOf "_law_feed" "_law_feed" (defArgs (top 7)) (defBody (top 7)) (defScope (top 7)) .none kV dc pm an cd ct), sl⟩) (c : PySem.W.codeIn K cd "_law_feed" = true) (k : PySem.W.keepIn K (.ref f) = true) : DefG g K mg f3 :=
  ⟨f, _, _, _, _, _, _, _, _, _, _, _, _, _, _, _, PySem.W.mg_of X N a, k, l, c, (fun_mk (st := top 7) l c k).binds (ps := f3.ps) (fun _ _ _ _ _ _ us hl => match us, hl with | [_], _ => rfl), C8.fnScope_by s3, m3⟩
theorem d4 (X : K.In h) (N : h.Ns mainGlobals mg) (a : PySem.W.nsIn K mainGlobals "_law_draw" = some (some (.ref f))) (l : K.lookup f = some ⟨oc, od, .func (PySem.W.fnOf "_law_draw" "_law_draw" (defArgs (top 8)) (defBody (top 8)) (defScope (top 8)) .none kV dc pm an cd ct), sl⟩) (c : PySem.W.codeIn K cd "_law_draw" = true) (k : PySem.W.keepIn K (.ref f) = true) : DefG g K mg f4 :=
  ⟨f, _, _, _, _, _, _, _, _, _, _, _, _, _, _, _, PySem.W.mg_of X N a, k, l, c, (fun_mk (st := top 8) l c k).binds (ps := f4.ps) (fun _ _ _ _ _ _ us hl => match us, hl with | [_, _], _ => rfl), C8.fnScope_by s4, m4⟩
theorem d5 (X : K.In h) (N : h.Ns mainGlobals mg) (a : PySem.W.nsIn K mainGlobals "_law_bent" = some (some (.ref f))) (l : K.lookup f = some ⟨oc, od, .func (PySem.W.fnOf "_law_bent" "_law_bent" (defArgs (top 9)) (defBody (top 9)) (defScope (top 9)) .none kV dc pm an cd ct), sl⟩) (c : PySem.W.codeIn K cd "_law_bent" = true) (k : PySem.W.keepIn K (.ref f) = true) : DefG g K mg f5 :=
  ⟨f, _, _, _, _, _, _, _, _, _, _, _, _, _, _, _, PySem.W.mg_of X N a, k, l, c, (fun_mk (st := top 9) l c k).binds (ps := f5.ps) (fun _ _ _ _ _ _ us hl => match us, hl with | [_, _], _ => rfl), C8.fnScope_by s5, m5⟩
theorem d6 (X : K.In h) (N : h.Ns mainGlobals mg) (a : PySem.W.nsIn K mainGlobals "_law_text" = some (some (.ref f))) (l : K.lookup f = some ⟨oc, od, .func (PySem.W.fnOf "_law_text" "_law_text" (defArgs (top 10)) (defBody (top 10)) (defScope (top 10)) .none kV dc pm an cd ct), sl⟩) (c : PySem.W.codeIn K cd "_law_text" = true) (k : PySem.W.keepIn K (.ref f) = true) : DefG g K mg f6 :=
  ⟨f, _, _, _, _, _, _, _, _, _, _, _, _, _, _, _, PySem.W.mg_of X N a, k, l, c, (fun_mk (st := top 10) l c k).binds (ps := f6.ps) (fun _ _ _ _ _ _ us hl => match us, hl with | [_], _ => rfl), C8.fnScope_by s6, m6⟩
theorem d7 (X : K.In h) (N : h.Ns mainGlobals mg) (a : PySem.W.nsIn K mainGlobals "_law_thing" = some (some (.ref f))) (l : K.lookup f = some ⟨oc, od, .func (PySem.W.fnOf "_law_thing" "_law_thing" (defArgs (top 11)) (defBody (top 11)) (defScope (top 11)) .none kV dc pm an cd ct), sl⟩) (c : PySem.W.codeIn K cd "_law_thing" = true) (k : PySem.W.keepIn K (.ref f) = true) : DefG g K mg f7 :=
  ⟨f, _, _, _, _, _, _, _, _, _, _, _, _, _, _, _, PySem.W.mg_of X N a, k, l, c, (fun_mk (st := top 11) l c k).binds (ps := f7.ps) (fun _ _ _ _ _ _ us hl => match us, hl with | [_], _ => rfl), C8.fnScope_by s7, m7⟩
theorem d8 (X : K.In h) (N : h.Ns mainGlobals mg) (a : PySem.W.nsIn K mainGlobals "_law_near" = some (some (.ref f))) (l : K.lookup f = some ⟨oc, od, .func (PySem.W.fnOf "_law_near" "_law_near" (defArgs (top 12)) (defBody (top 12)) (defScope (top 12)) .none kV dc pm an cd ct), sl⟩) (c : PySem.W.codeIn K cd "_law_near" = true) (k : PySem.W.keepIn K (.ref f) = true) : DefG g K mg f8 :=
  ⟨f, _, _, _, _, _, _, _, _, _, _, _, _, _, _, _, PySem.W.mg_of X N a, k, l, c, (fun_mk (st := top 12) l c k).binds (ps := f8.ps) (fun _ _ _ _ _ _ us hl => match us, hl with | [_], _ => rfl), C8.fnScope_by s8, m8⟩
theorem d9 (X : K.In h) (N : h.Ns mainGlobals mg) (a : PySem.W.nsIn K mainGlobals "_law_whole" = some (some (.ref f))) (l : K.lookup f = some ⟨oc, od, .func (PySem.W.fnOf "_law_whole" "_law_whole" (defArgs (top 13)) (defBody (top 13)) (defScope (top 13)) .none kV dc pm an cd ct), sl⟩) (c : PySem.W.codeIn K cd "_law_whole" = true) (k : PySem.W.keepIn K (.ref f) = true) : DefG g K mg f9 :=
  ⟨f, _, _, _, _, _, _, _, _, _, _, _, _, _, _, _, PySem.W.mg_of X N a, k, l, c, (fun_mk (st := top 13) l c k).binds (ps := f9.ps) (fun _ _ _ _ _ _ us hl => match us, hl with | [_], _ => rfl), C8.fnScope_by s9, m9⟩
theorem d10 (X : K.In h) (N : h.Ns mainGlobals mg) (a : PySem.W.nsIn K mainGlobals "_law_due" = some (some (.ref f))) (l : K.lookup f = some ⟨oc, od, .func (PySem.W.fnOf "_law_due" "_law_due" (defArgs (top 14)) (defBody (top 14)) (defScope (top 14)) .none kV dc pm an cd ct), sl⟩) (c : PySem.W.codeIn K cd "_law_due" = true) (k : PySem.W.keepIn K (.ref f) = true) : DefG g K mg f10 :=
  ⟨f, _, _, _, _, _, _, _, _, _, _, _, _, _, _, _, PySem.W.mg_of X N a, k, l, c, (fun_mk (st := top 14) l c k).binds (ps := f10.ps) (fun _ _ _ _ _ _ us hl => match us, hl with | [_], _ => rfl), C8.fnScope_by s10, m10⟩
theorem d11 (X : K.In h) (N : h.Ns mainGlobals mg) (a : PySem.W.nsIn K mainGlobals "law" = some (some (.ref f))) (l : K.lookup f = some ⟨oc, od, .func (PySem.W.fnOf "law" "law" (defArgs (top 15)) (defBody (top 15)) (defScope (top 15)) .none kV dc pm an cd ct), sl⟩) (c : PySem.W.codeIn K cd "law" = true) (k : PySem.W.keepIn K (.ref f) = true) : DefG g K mg f11 :=
  ⟨f, _, _, _, _, _, _, _, _, _, _, _, _, _, _, _, PySem.W.mg_of X N a, k, l, c, (fun_mk (st := top 15) l c k).binds (ps := f11.ps) (fun _ _ _ _ _ _ us hl => match us, hl with | [_], _ => rfl), C8.fnScope_by s11, m11⟩
end
theorem all_mk {K : PySem.W.Frag} {mg : Str → Option Value} {h : Heap} {q0 : Addr} {oc0 dc0 pm0 kV0 cd0 ct0 : Value} {od0 an0 : Option Addr} {sl0 : Array (Option Value)} {q1 : Addr} {oc1 dc1 pm1 kV1 cd1 ct1 : Value} {od1 an1 : Option Addr} {sl1 : Array (Option Value)} {q2 : Addr} {oc2 dc2 pm2 kV2 cd2 ct2 : Value} {od2 an2 : Option Addr} {sl2 : Array (Option Value)} {q3 : Addr} {oc3 dc3 pm3 kV3 cd3 ct3 : Value} {od3 an3 : Option Addr} {sl3 : Array (Option Value)} {q4 : Addr} {oc4 dc4 pm4 kV4 cd4 ct4 : Value} {od4 an4 : Option Addr} {sl4 : Array (Option Value)} {q5 : Addr} {oc5 dc5 pm5 kV5 cd5 ct5 : Value} {od5 an5 : Option Addr} {sl5 : Array (Option Value)} {q6 : Addr} {oc6 dc6 pm6 kV6 cd6 ct6 : Value} {od6 an6 : Option Addr} {sl6 : Array (Option Value)} {q7 : Addr} {oc7 dc7 pm7 kV7 cd7 ct7 : Value} {od7 an7 : Option Addr} {sl7 : Array (Option Value)} {q8 : Addr} {oc8 dc8 pm8 kV8 cd8 ct8 : Value} {od8 an8 : Option Addr} {sl8 : Array (Option Value)} {q9 : Addr} {oc9 dc9 pm9 kV9 cd9 ct9 : Value} {od9 an9 : Option Addr} {sl9 : Array (Option Value)} {q10 : Addr} {oc10 dc10 pm10 kV10 cd10 ct10 : Value} {od10 an10 : Option Addr} {sl10 : Array (Option Value)} {q11 : Addr} {oc11 dc11 pm11 kV11 cd11 ct11 : Value} {od11 an11 : Option Addr} {sl11 : Array (Option Value)} {t0 : Tok} {t1 : Tok} (X : K.In h) (N : h.Ns mainGlobals mg) (a0 : PySem.W.nsIn K mainGlobals "is_number" = some (some (.ref q0)))
  (l0 : K.lookup q0 = some ⟨oc0, od0, .func (PySem.W.fnOf "is_number" "is_number" (defArgs (top 3)) (defBody (top 3)) (defScope (top 3)) .none kV0 dc0 pm0 an0 cd0 ct0), sl0⟩)
  (c0 : PySem.W.codeIn K cd0 "is_number" = true)
  (k0 : PySem.W.keepIn K (.ref q0) = true)
  (a1 : PySem.W.nsIn K mainGlobals "is_word" = some (some (.ref q1)))
  (l1 : K.lookup q1 = some ⟨oc1, od1, .func (PySem.W.fnOf "is_word" "is_word" (defArgs (top 4)) (defBody (top 4)) (defScope (top 4)) .none kV1 dc1 pm1 an1 cd1 ct1), sl1⟩)
  (c1 : PySem.W.codeIn K cd1 "is_word" = true)
  (k1 : PySem.W.keepIn K (.ref q1) = true)
  (a2 : PySem.W.nsIn K mainGlobals "is_cells" = some (some (.ref q2)))
  (l2 : K.lookup q2 = some ⟨oc2, od2, .func (PySem.W.fnOf "is_cells" "is_cells" (defArgs (top 5)) (defBody (top 5)) (defScope (top 5)) .none kV2 dc2 pm2 an2 cd2 ct2), sl2⟩)
  (c2 : PySem.W.codeIn K cd2 "is_cells" = true)
  (k2 : PySem.W.keepIn K (.ref q2) = true)
  (a3 : PySem.W.nsIn K mainGlobals "_law_feed" = some (some (.ref q3)))
  (l3 : K.lookup q3 = some ⟨oc3, od3, .func (PySem.W.fnOf "_law_feed" "_law_feed" (defArgs (top 7)) (defBody (top 7)) (defScope (top 7)) .none kV3 dc3 pm3 an3 cd3 ct3), sl3⟩)
  (c3 : PySem.W.codeIn K cd3 "_law_feed" = true)
  (k3 : PySem.W.keepIn K (.ref q3) = true)
  (a4 : PySem.W.nsIn K mainGlobals "_law_draw" = some (some (.ref q4)))
  (l4 : K.lookup q4 = some ⟨oc4, od4, .func (PySem.W.fnOf "_law_draw" "_law_draw" (defArgs (top 8)) (defBody (top 8)) (defScope (top 8)) .none kV4 dc4 pm4 an4 cd4 ct4), sl4⟩)
  (c4 : PySem.W.codeIn K cd4 "_law_draw" = true)
  (k4 : PySem.W.keepIn K (.ref q4) = true)
  (a5 : PySem.W.nsIn K mainGlobals "_law_bent" = some (some (.ref q5)))
  (l5 : K.lookup q5 = some ⟨oc5, od5, .func (PySem.W.fnOf "_law_bent" "_law_bent" (defArgs (top 9)) (defBody (top 9)) (defScope (top 9)) .none kV5 dc5 pm5 an5 cd5 ct5), sl5⟩)
  (c5 : PySem.W.codeIn K cd5 "_law_bent" = true)
  (k5 : PySem.W.keepIn K (.ref q5) = true)
  (a6 : PySem.W.nsIn K mainGlobals "_law_text" = some (some (.ref q6)))
  (l6 : K.lookup q6 = some ⟨oc6, od6, .func (PySem.W.fnOf "_law_text" "_law_text" (defArgs (top 10)) (defBody (top 10)) (defScope (top 10)) .none kV6 dc6 pm6 an6 cd6 ct6), sl6⟩)
  (c6 : PySem.W.codeIn K cd6 "_law_text" = true)
  (k6 : PySem.W.keepIn K (.ref q6) = true)
  (a7 : PySem.W.nsIn K mainGlobals "_law_thing" = some (some (.ref q7)))
  (l7 : K.lookup q7 = some ⟨oc7, od7, .func (PySem.W.fnOf "_law_thing" "_law_thing" (defArgs (top 11)) (defBody (top 11)) (defScope (top 11)) .none kV7 dc7 pm7 an7 cd7 ct7), sl7⟩)
  (c7 : PySem.W.codeIn K cd7 "_law_thing" = true)
  (k7 : PySem.W.keepIn K (.ref q7) = true)
  (a8 : PySem.W.nsIn K mainGlobals "_law_near" = some (some (.ref q8)))
  (l8 : K.lookup q8 = some ⟨oc8, od8, .func (PySem.W.fnOf "_law_near" "_law_near" (defArgs (top 12)) (defBody (top 12)) (defScope (top 12)) .none kV8 dc8 pm8 an8 cd8 ct8), sl8⟩)
  (c8 : PySem.W.codeIn K cd8 "_law_near" = true)
  (k8 : PySem.W.keepIn K (.ref q8) = true)
  (a9 : PySem.W.nsIn K mainGlobals "_law_whole" = some (some (.ref q9)))
  (l9 : K.lookup q9 = some ⟨oc9, od9, .func (PySem.W.fnOf "_law_whole" "_law_whole" (defArgs (top 13)) (defBody (top 13)) (defScope (top 13)) .none kV9 dc9 pm9 an9 cd9 ct9), sl9⟩)
  (c9 : PySem.W.codeIn K cd9 "_law_whole" = true)
  (k9 : PySem.W.keepIn K (.ref q9) = true)
  (a10 : PySem.W.nsIn K mainGlobals "_law_due" = some (some (.ref q10)))
  (l10 : K.lookup q10 = some ⟨oc10, od10, .func (PySem.W.fnOf "_law_due" "_law_due" (defArgs (top 14)) (defBody (top 14)) (defScope (top 14)) .none kV10 dc10 pm10 an10 cd10 ct10), sl10⟩)
  (c10 : PySem.W.codeIn K cd10 "_law_due" = true)
  (k10 : PySem.W.keepIn K (.ref q10) = true)
  (a11 : PySem.W.nsIn K mainGlobals "law" = some (some (.ref q11)))
  (l11 : K.lookup q11 = some ⟨oc11, od11, .func (PySem.W.fnOf "law" "law" (defArgs (top 15)) (defBody (top 15)) (defScope (top 15)) .none kV11 dc11 pm11 an11 cd11 ct11), sl11⟩)
  (c11 : PySem.W.codeIn K cd11 "law" = true)
  (k11 : PySem.W.keepIn K (.ref q11) = true)
  (gl0 : PySem.W.nsIn K mainGlobals "LETTERS" = some (some (.str "abcdefghijklmnopqrstuvwxyz" t0)))
  (gl1 : PySem.W.nsIn K mainGlobals "MOST_LETTERS" = some (some (.int 8 t1)))
  (z0 : PySem.W.nsIn K mainGlobals "len" = some none)
  (z1 : PySem.W.nsIn K mainGlobals "list" = some none)
  (z2 : PySem.W.nsIn K mainGlobals "tuple" = some none)
  (z3 : PySem.W.nsIn K mainGlobals "str" = some none)
  (z4 : PySem.W.nsIn K mainGlobals "repr" = some none)
  (z5 : PySem.W.nsIn K mainGlobals "ord" = some none)
  (z6 : PySem.W.nsIn K mainGlobals "int" = some none)
  (z7 : PySem.W.nsIn K mainGlobals "all" = some none)
  (z8 : PySem.W.nsIn K mainGlobals "any" = some none)
  (z9 : PySem.W.nsIn K mainGlobals "sum" = some none)
  (z10 : PySem.W.nsIn K mainGlobals "sorted" = some none)
  (z11 : PySem.W.nsIn K mainGlobals "max" = some none)
  (z12 : PySem.W.nsIn K mainGlobals "min" = some none)
  (z13 : PySem.W.nsIn K mainGlobals "dict" = some none)
  (z14 : PySem.W.nsIn K mainGlobals "set" = some none)
  (z15 : PySem.W.nsIn K mainGlobals "isinstance" = some none)
  (z16 : PySem.W.nsIn K mainGlobals "range" = some none)
  (z17 : PySem.W.nsIn K mainGlobals "bool" = some none) : Mod0 g K mg := by
  refine ⟨fun x hx => ?_, fun p hp => ?_, fun F hF => ?_⟩
  · have hx : x ∈ (["len", "list", "tuple", "str", "repr", "ord", "int", "all", "any", "sum", "sorted", "max", "min", "dict", "set", "isinstance", "range", "bool"] : List Str) := hx
    simp only [List.mem_cons, List.not_mem_nil, or_false] at hx
    rcases hx with rfl | rfl | rfl | rfl | rfl | rfl | rfl | rfl | rfl | rfl | rfl | rfl | rfl | rfl | rfl | rfl | rfl | rfl
    · exact PySem.W.mg_none_of X N z0
    · exact PySem.W.mg_none_of X N z1
    · exact PySem.W.mg_none_of X N z2
    · exact PySem.W.mg_none_of X N z3
    · exact PySem.W.mg_none_of X N z4
    · exact PySem.W.mg_none_of X N z5
    · exact PySem.W.mg_none_of X N z6
    · exact PySem.W.mg_none_of X N z7
    · exact PySem.W.mg_none_of X N z8
    · exact PySem.W.mg_none_of X N z9
    · exact PySem.W.mg_none_of X N z10
    · exact PySem.W.mg_none_of X N z11
    · exact PySem.W.mg_none_of X N z12
    · exact PySem.W.mg_none_of X N z13
    · exact PySem.W.mg_none_of X N z14
    · exact PySem.W.mg_none_of X N z15
    · exact PySem.W.mg_none_of X N z16
    · exact PySem.W.mg_none_of X N z17
  · have hp : p ∈ ([("LETTERS", (.str "abcdefghijklmnopqrstuvwxyz")), ("MOST_LETTERS", (.int 8))] : List (Str × D)) := hp
    simp only [List.mem_cons, List.not_mem_nil, or_false] at hp
    rcases hp with rfl | rfl
    · exact ⟨_, V.str "abcdefghijklmnopqrstuvwxyz", PySem.W.mg_of X N gl0, ⟨_, rfl⟩, fun _ _ => .str _⟩
    · exact ⟨_, V.int 8, PySem.W.mg_of X N gl1, ⟨_, rfl⟩, fun _ _ => .int _⟩
  · have hF : F ∈ ([f0, f1, f2, f3, f4, f5, f6, f7, f8, f9, f10, f11] : List Fn) := hF
    simp only [List.mem_cons, List.not_mem_nil, or_false] at hF
    rcases hF with rfl | rfl | rfl | rfl | rfl | rfl | rfl | rfl | rfl | rfl | rfl | rfl
    · exact d0 X N a0 l0 c0 k0
    · exact d1 X N a1 l1 c1 k1
    · exact d2 X N a2 l2 c2 k2
    · exact d3 X N a3 l3 c3 k3
    · exact d4 X N a4 l4 c4 k4
    · exact d5 X N a5 l5 c5 k5
    · exact d6 X N a6 l6 c6 k6
    · exact d7 X N a7 l7 c7 k7
    · exact d8 X N a8 l8 c8 k8
    · exact d9 X N a9 l9 c9 k9
    · exact d10 X N a10 l10 c10 k10
    · exact d11 X N a11 l11 c11 k11
end Lw

namespace Lw
open PySem L2 Cp
theorem kit_int : ∀ u ∈ ["NoneType", "bool", "int", "str", "tuple", "list", "dict"], kitB u "int" = some (u == "bool" || u == "int") := by decide +kernel
theorem kit_bool : ∀ u ∈ ["NoneType", "bool", "int", "str", "tuple", "list", "dict"], kitB u "bool" = some (u == "bool") := by decide +kernel
theorem kit_str : ∀ u ∈ ["NoneType", "bool", "int", "str", "tuple", "list", "dict"], kitB u "str" = some (u == "str") := by decide +kernel
theorem kit_tup : ∀ u ∈ ["NoneType", "bool", "int", "str", "tuple", "list", "dict"], kitB u "tuple" = some (u == "tuple") := by decide +kernel
/-- what isinstance tells -/
def isInt : D → Bool | .int _ => true | .bl _ => true | _ => false
def isBl : D → Bool | .bl _ => true | _ => false
def isStr : D → Bool | .str _ => true | _ => false
def isTup : D → Bool | .tup _ => true | _ => false
theorem ty_all {M : Mem} {d : D} {c h lb : Nat} (k : Dat M d c h lb) : ∃ u, tyD M d = some u ∧ kitB u "int" = some (isInt d) ∧ kitB u "bool" = some (isBl d) ∧ kitB u "str" = some (isStr d) ∧ kitB u "tuple" = some (isTup d) := by
  obtain ⟨p, k, _⟩ := k
  have go : ∀ u ∈ ["NoneType", "bool", "int", "str", "tuple", "list", "dict"], tyD M d = some u → (u == "bool" || u == "int") = isInt d → (u == "bool") = isBl d → (u == "str") = isStr d → (u == "tuple") = isTup d →
      ∃ u, tyD M d = some u ∧ kitB u "int" = some (isInt d) ∧ kitB u "bool" = some (isBl d) ∧ kitB u "str" = some (isStr d) ∧ kitB u "tuple" = some (isTup d) := fun u hu e a b c f =>
    ⟨u, e, by rw [kit_int u hu, a], by rw [kit_bool u hu, b], by rw [kit_str u hu, c], by rw [kit_tup u hu, f]⟩
  cases k with
  | non => exact go "NoneType" (by decide) rfl rfl rfl rfl rfl
  | bl b => exact go "bool" (by decide) rfl rfl rfl rfl rfl
  | int b => exact go "int" (by decide) rfl rfl rfl rfl rfl
  | str b => exact go "str" (by decide) rfl rfl rfl rfl rfl
  | tup b => exact go "tuple" (by decide) rfl rfl rfl rfl rfl
  | frl b => exact go "list" (by decide) rfl rfl rfl rfl rfl
  | lst e b => exact go "list" (by decide) (by show (match M[_]? with | some (MO.lst _) => some "list" | some (MO.dct _) => some "dict" | none => none) = _; rw [e]) rfl rfl rfl rfl
def isNum : D → Bool | .int _ => true | _ => false
theorem num_of (d : D) : (isInt d && !isBl d) = isNum d := by cases d <;> rfl
theorem num_run {n : Nat} {M : Mem} {d : D} {c h lb : Nat} {Q : D × Mem → Prop} (k : Dat M d c h lb) (w : Q (.bl (isNum d), M)) : Run (callF g (n + 1) 0 [d] M) Q := by
  obtain ⟨u, hu, h1, h2, h3, h4⟩ := ty_all k
  refine run_call [d] (F := f0) rfl rfl ?_
  have e := num_of d
  cases a : isInt d <;> cases b : isBl d <;> rw [a, b] at e <;> simp [f0, evSs, evS, ev, evs, evV, evT, evTs, evp, evI, evO, evG, run_ok, run_bind, run_when, run_of, hu, h1, h2, a, b] <;> rw [← e] at w <;> exact w
theorem whole_run {n : Nat} {M : Mem} {d : D} {c h lb : Nat} {Q : D × Mem → Prop} (k : Dat M d c h lb) (w : Q (.bl (isNum d), M)) : Run (callF g (n + 1) 9 [d] M) Q := by
  obtain ⟨u, hu, h1, h2, h3, h4⟩ := ty_all k
  refine run_call [d] (F := f9) rfl rfl ?_
  have e := num_of d
  cases a : isInt d <;> cases b : isBl d <;> rw [a, b] at e <;> simp [f9, evSs, evS, ev, evs, evV, evT, evTs, evp, evI, evO, evG, run_ok, run_bind, run_when, run_of, hu, h1, h2, a, b] <;> rw [← e] at w <;> exact w

/-! ### words -/
def small (c : Nat) : Bool := decide (97 ≤ c) && decide (c ≤ 122)
def isWord : D → Bool
  | .str x => decide (1 ≤ x.length) && (decide (x.length ≤ 8) && x.cps.toList.all small)
  | _ => false
theorem letters (c : Nat) : (!(Builtin.Str.occurrences "abcdefghijklmnopqrstuvwxyz" ⟨#[c]⟩ 0 (Str.length "abcdefghijklmnopqrstuvwxyz") 1).isEmpty) = small c := by
  rw [StrLaws.found_one]
  have e : (("abcdefghijklmnopqrstuvwxyz" : String) : Str).cps.toList = (List.range 26).map (· + 97) := by decide +kernel
  rw [e]
  unfold small
  rw [← Bool.decide_and]
  refine decide_eq_decide.mpr ⟨fun h => ?_, fun h => ?_⟩
  · obtain ⟨i, hi, rfl⟩ := List.mem_map.mp h
    have := List.mem_range.mp hi
    omega
  · exact List.mem_map.mpr ⟨c - 97, List.mem_range.mpr (by omega), by omega⟩
def fW : D → Option D | .str y => some (.bl (small (y.cps.getD 0 0))) | _ => none
theorem word_run {n : Nat} {M : Mem} {d : D} {c h lb : Nat} {Q : D × Mem → Prop} (k : Dat M d c h lb) (hc : c ≤ 16777216) (w : ∀ M', Gw M M' → Q (.bl (isWord d), M')) : Run (callF g (n + 1) 1 [d] M) Q := by
  obtain ⟨u, hu, h1, h2, h3, h4⟩ := ty_all k
  refine run_call [d] (F := f1) rfl rfl ?_
  cases d with
  | str x =>
    obtain ⟨sk, sl⟩ := k.strOk
    have hl : x.length ≤ sizeLine := by rw [sizeLine_eq]; omega
    have e3 : isStr (.str x) = true := rfl
    have hlen : lenD M (.str x) = some x.length := by show (if x.length ≤ sizeLine then some x.length else none) = _; rw [if_pos hl]
    by_cases a : 1 ≤ x.length
    · have a' : (1 : Int) ≤ x.length := by omega
      by_cases b : x.length ≤ 8
      · have b' : (x.length : Int) ≤ 8 := by omega
        simp [f1, f1_1, g, evSs, evS, ev, evs, evV, evT, evTs, evp, evI, evO, evG, run_ok, run_bind, run_when, run_of, hu, h3, e3, Lit.d, biD, hlen, cmpD, truth, a', b', newM, listD, at_new]
        refine run_compP fW (by rw [List.length_map, Array.length_toList]; show x.length < _; omega) (fun d hd => ?_) ?_
        · obtain ⟨c, _, rfl⟩ := List.mem_map.mp hd
          have := letters c
          simp [wipeE, inD, this, fW]
        · have e : (x.cps.toList.map fun c => D.str ⟨#[c]⟩).filterMap fW = (x.cps.toList.map small).map D.bl := by
            rw [List.filterMap_map, List.map_map, ← List.filterMap_eq_map]
            rfl
          rw [e]
          refine ⟨_, boolsD_map _, ?_⟩
          have : isWord (.str x) = (x.cps.toList.map small).all id := by
            show (decide (1 ≤ x.length) && (decide (x.length ≤ 8) && x.cps.toList.all small)) = _
            rw [decide_eq_true a, decide_eq_true b, List.all_map]; rfl
          rw [← this]
          exact w _ .new
      · have b' : ¬ (x.length : Int) ≤ 8 := by omega
        have : isWord (.str x) = false := by show (decide (1 ≤ x.length) && (decide (x.length ≤ 8) && _)) = _; rw [decide_eq_false b, Bool.false_and, Bool.and_false]
        rw [this] at w
        simp [f1, f1_1, g, evSs, evS, ev, evs, evV, evT, evTs, evp, evI, evO, evG, run_ok, run_bind, run_when, run_of, hu, h3, e3, Lit.d, biD, hlen, cmpD, truth, a', b']
        exact w M .refl
    · have a' : ¬ (1 : Int) ≤ x.length := by omega
      have : isWord (.str x) = false := by show (decide (1 ≤ x.length) && _) = _; rw [decide_eq_false a, Bool.false_and]
      rw [this] at w
      simp [f1, f1_1, g, evSs, evS, ev, evs, evV, evT, evTs, evp, evI, evO, evG, run_ok, run_bind, run_when, run_of, hu, h3, e3, Lit.d, biD, hlen, cmpD, truth, a']
      exact w M .refl
  | _ => 
    simp [f1, f1_1, evSs, evS, ev, evs, evV, evT, evTs, evp, evI, evO, evG, run_ok, run_bind, run_when, run_of, hu, h3, isStr, truth, Lit.d]
    exact w M .refl
end Lw

namespace Lw
open PySem L2 Cp
def isCells : D → Bool | .tup xs => !xs.isEmpty && xs.all isNum | _ => false
def fN : D → Option D := fun d => some (.bl (isNum d))
theorem cells_run {n : Nat} {M : Mem} {d : D} {c h lb : Nat} {Q : D × Mem → Prop} (k : Dat M d c h lb) (hc : c ≤ 16777216) (w : ∀ M', Gw M M' → Q (.bl (isCells d), M')) : Run (callF g (n + 2) 2 [d] M) Q := by
  obtain ⟨u, hu, h1, h2, h3, h4⟩ := ty_all k
  refine run_call [d] (F := f2) rfl rfl ?_
  cases d with
  | tup xs =>
    have e4 : isTup (.tup xs) = true := rfl
    have kl := k.tupL
    have ln := kl.len
    by_cases a : xs.length = 0
    · have : xs = [] := List.eq_nil_of_length_eq_zero a
      subst this
      simp [f2, evSs, evS, ev, evs, evV, evT, evTs, evp, evI, evO, evG, run_ok, run_bind, run_when, run_of, hu, h4, e4, Lit.d, biD, lenD, cmpD]
      exact w M .refl
    · have a' : 0 < xs.length := by omega
      simp [f2, evSs, evS, ev, evs, evV, evT, evTs, evp, evI, evO, evG, run_ok, run_bind, run_when, run_of, hu, h4, e4, Lit.d, biD, lenD, cmpD, a', newM, listD, at_new]
      refine run_compP (xs := xs) fN (by omega) (fun d hd => ?_) ?_
      · simp [wipeE]
        exact num_run (kl.mem d hd) ⟨rfl, rfl⟩
      · have e : xs.filterMap fN = (xs.map isNum).map D.bl := by
          rw [List.map_map, ← List.filterMap_eq_map]; rfl
        rw [e]
        refine ⟨xs.map isNum, boolsD_map _, ?_⟩
        have key : isCells (.tup xs) = xs.all isNum := by
          cases xs with
          | nil => exact absurd rfl a
          | cons _ _ => rfl
        cases hb : xs.all isNum with
        | true =>
          have hb' : ¬ ∃ y, y ∈ xs ∧ isNum y = false := fun ⟨y, h1, h2⟩ => by
            have := List.all_eq_true.mp hb y h1
            rw [h2] at this; cases this
          rw [key, hb] at w
          simp [hb']
          exact w _ .new
        | false =>
          have hb' : ∃ y, y ∈ xs ∧ isNum y = false := by
            obtain ⟨y, h1, h2⟩ := List.all_eq_false.mp hb
            exact ⟨y, h1, by simpa using h2⟩
          rw [key, hb] at w
          have hb2 : ((xs.map isNum).all id) = false := by rw [List.all_map]; exact hb
          simp [hb', hb2, hb]
          exact w _ .new
  | _ =>
    simp [f2, evSs, evS, ev, evs, evV, evT, evTs, evp, evI, evO, evG, run_ok, run_bind, run_when, run_of, hu, h4, isTup, truth, Lit.d]
    exact w M .refl
/-! ### the law's own look -/
def fD : D → Option D | .str y => if small (y.cps.getD 0 0) = true then none else some (.str y) | _ => none
def fC : D → Option D := fun d => if isNum d = true then none else some d
theorem small_cond {c : Nat} : (decide ((c : Int) < 97) || decide ((122 : Int) < c)) = !small c := by
  unfold small
  by_cases h1 : 97 ≤ c <;> by_cases h2 : c ≤ 122 <;> simp [h1, h2] <;> omega
theorem ok_chars {x : Str} (h : PyData.strOk x = true) {c : Nat} (hc : c ∈ x.cps.toList) : PyData.strOk ⟨#[c]⟩ = true := by
  unfold PyData.strOk at h ⊢
  rw [Array.all_eq_true'] at h
  have := h c (by simpa using hc)
  simpa using this
def pre : D → Bool | .str x => decide (0 < x.length) && decide (x.length < 9) | _ => false
theorem due_run {n : Nat} {M : Mem} {d : D} {c h lb : Nat} {Q : D × Mem → Prop} (k : Dat M d c h lb) (hc : c ≤ 16777216) (hh : h ≤ 63) (w : ∀ M', Gw M M' → Q (.tup [.bl (isNum d), .bl (isWord d), .bl (isCells d)], M')) : Run (callF g (n + 2) 10 [d] M) Q := by
  obtain ⟨u, hu, h1, h2, h3, h4⟩ := ty_all k
  refine run_call [d] (F := f10) rfl rfl ?_
  -- the word
  have s1 : ∀ Q', Q' (Fl.nx, [some d, some (.bl (pre d)), none, none, none], M) → Run (evS g (callF g (n + 1)) (.asg (.nm 1) (.bool true (.cons (.isi (.var 0) "str") (.cons (.chain .lt .lt (.lit (.int 0)) (.bi .len (.cons (.var 0) .nil)) (.lit (.int 9))) .nil)))) [some d, none, none, none, none] M) Q' := by
    intro Q' q
    cases d with
    | str x =>
      have hl : x.length ≤ sizeLine := by rw [sizeLine_eq]; have := k.strOk.2; omega
      have e3 : isStr (.str x) = true := rfl
      by_cases a : 0 < x.length
      · by_cases b : x.length < 9
        · have b' : (x.length : Int) < 9 := by omega
          simp [evSs, evS, ev, evs, evV, evT, evTs, evp, evI, evO, evG, run_ok, run_bind, run_when, run_of, hu, h3, e3, Lit.d, biD, lenD, hl, cmpD, a, b']
          simpa [pre, a, b] using q
        · have b' : ¬ (x.length : Int) < 9 := by omega
          simp [evSs, evS, ev, evs, evV, evT, evTs, evp, evI, evO, evG, run_ok, run_bind, run_when, run_of, hu, h3, e3, Lit.d, biD, lenD, hl, cmpD, a, b']
          simpa [pre, a, b] using q
      · simp [evSs, evS, ev, evs, evV, evT, evTs, evp, evI, evO, evG, run_ok, run_bind, run_when, run_of, hu, h3, e3, Lit.d, biD, lenD, hl, cmpD, a]
        simpa [pre, a] using q
    | _ => simp [evSs, evS, ev, evs, evV, evT, evTs, evp, evI, evO, evG, run_ok, run_bind, run_when, run_of, hu, h3, isStr]; exact q
  -- .. in letters alone
  have s2 : ∀ Q', (∀ M', Gw M M' → Q' (Fl.nx, [some d, some (.bl (isWord d)), none, none, none], M')) → Run (evS g (callF g (n + 1)) (.asg (.nm 1) (.bool true (.cons (.var 1) (.cons (.cmp .eq (.lc (.var 3) (.nm 3) (.ex (.var 0)) (.cons (.bool false (.cons (.val (.cmp .lt (.bi .ord (.cons (.var 3) .nil)) (.lit (.int 97)))) (.cons (.val (.cmp .gt (.bi .ord (.cons (.var 3) .nil)) (.lit (.int 122)))) .nil))) .nil) [3]) (.lst .nil)) .nil))))
      [some d, some (.bl (pre d)), none, none, none] M) Q' := by
    intro Q' q
    cases d with
    | str x =>
      obtain ⟨sk, sl⟩ := k.strOk
      have e : isWord (.str x) = (pre (.str x) && x.cps.toList.all small) := by
        show (decide (1 ≤ x.length) && (decide (x.length ≤ 8) && _)) = _
        rw [← Bool.and_assoc, show decide (x.length ≤ 8) = decide (x.length < 9) from decide_eq_decide.mpr (by omega)]
        rfl
      rw [e] at q
      generalize pre (.str x) = b at q ⊢
      cases b with
      | false => simp [evSs, evS, ev, evs, evV, evT, evTs, evp, evI, evO, evG, run_ok, run_bind, run_when, run_of]; exact q _ .refl
      | true =>
        simp [evSs, evS, ev, evs, evV, evT, evTs, evp, evI, evO, evG, run_ok, run_bind, run_when, run_of, newM]
        refine run_compP (xs := x.cps.toList.map fun c => D.str ⟨#[c]⟩) fD (by rw [List.length_map, Array.length_toList]; show x.length < _; omega) (fun y hy => ?_) ?_
        · obtain ⟨c, _, rfl⟩ := List.mem_map.mp hy
          simp [wipeE, biD, Lit.d, cmpD, truth]
          by_cases a1 : 97 ≤ c
          · by_cases a2 : c ≤ 122
            · exact .inl ⟨by omega, .inl ⟨by omega, by simp [fD, small, a1, a2]⟩⟩
            · exact .inl ⟨by omega, .inr ⟨by omega, by simp [fD, small, a1, a2]⟩⟩
          · exact .inr ⟨by omega, by simp [fD, small, a1]⟩
        · have good : ∀ y ∈ (x.cps.toList.map fun c => D.str ⟨#[c]⟩).filterMap fD, Dat M y 12 0 lb := fun y hy => by
            obtain ⟨z, hz, e⟩ := List.mem_filterMap.mp hy
            obtain ⟨c, hc, rfl⟩ := List.mem_map.mp hz
            by_cases hs : small c = true
            · simp [fD, hs] at e
            · simp [fD, hs] at e
              subst e
              exact Dat.str (ok_chars sk hc)
          have good := DatL.all good
          have ev : ((x.cps.toList.map fun c => D.str ⟨#[c]⟩).filterMap fD).isEmpty = x.cps.toList.all small := by
            rw [List.filterMap_map]
            induction x.cps.toList with
            | nil => rfl
            | cons c cs ih =>
              rw [List.filterMap_cons, List.all_cons, ← ih]
              cases hs : small c with
              | true => simp [fD, hs]
              | false => simp [fD, hs]
          generalize (x.cps.toList.map fun c => D.str ⟨#[c]⟩).filterMap fD = r at good ev ⊢
          rw [← ev] at q
          have g1 : Gw M (M ++ [MO.lst r]) := .new
          have g2 : Gw (M ++ [MO.lst r]) (M ++ [MO.lst r] ++ [MO.lst []]) := .new
          have a1 : (M ++ [MO.lst r] ++ [MO.lst []])[M.length]? = some (.lst r) := g2 _ _ at_new
          have a2 : (M ++ [MO.lst r] ++ [MO.lst []])[M.length + 1]? = some (.lst []) := by
            have := at_new (M := M ++ [MO.lst r]) (o := MO.lst [])
            rwa [List.length_append] at this
          have e2 := eq_nilL a1 a2 ((good.gw g1).gw g2) (by decide)
          simp [cmpD] at e2 ⊢
          have q := q _ (g1.trans g2)
          cases hr : r.isEmpty <;> simp [e2, hr] at q ⊢ <;> exact q
    | _ => simp [evSs, evS, ev, evs, evV, evT, evTs, evp, evI, evO, evG, run_ok, run_bind, run_when, run_of, pre]; exact q _ .refl
  -- the cells
  have s3 : ∀ (M1 : Mem) (Q' : Fl × Ev × Mem → Prop), Gw M M1 → (∀ M', Gw M M' → Q' (Fl.nx, [some d, some (.bl (isWord d)), some (.bl (isCells d)), none, none], M')) →
      Run (evS g (callF g (n + 1)) (.asg (.nm 2) (.bool true (.cons (.isi (.var 0) "tuple") (.cons (.cmp .ne (.var 0) (.tup .nil)) (.cons (.cmp .eq (.lc (.var 4) (.nm 4) (.ex (.var 0)) (.cons (.not (.val (.call 9 (.cons (.var 4) .nil)))) .nil) [4]) (.lst .nil)) .nil)))))
      [some d, some (.bl (isWord d)), none, none, none] M1) Q' := by
    intro M1 Q' g0 q
    have k1 := k.gw g0
    obtain ⟨u1, hu1, _, _, _, h41⟩ := ty_all k1
    generalize isWord d = wd at q ⊢
    cases d with
    | tup xs =>
      have e4 : isTup (.tup xs) = true := rfl
      have kl := k1.tupL
      have ln := kl.len
      have e0 := eq_nilT kl (by omega : h < 64)
      cases xs with
      | nil => simp [evSs, evS, ev, evs, evV, evT, evTs, evp, evI, evO, evG, run_ok, run_bind, run_when, run_of, hu1, h41, e4, cmpD, e0]; exact q _ g0
      | cons x0 xs =>
        simp [evSs, evS, ev, evs, evV, evT, evTs, evp, evI, evO, evG, run_ok, run_bind, run_when, run_of, hu1, h41, e4, cmpD, e0, newM]
        refine run_compP (xs := x0 :: xs) fC (by omega) (fun y hy => ?_) ?_
        · simp [wipeE]
          refine whole_run (kl.mem y hy) ?_
          cases hn : isNum y <;> simp [truth, fC, hn]
        · have good : ∀ y ∈ (x0 :: xs).filterMap fC, Dat M1 y c h lb := fun y hy => by
            obtain ⟨z, hz, e⟩ := List.mem_filterMap.mp hy
            by_cases hn : isNum z = true
            · simp [fC, hn] at e
            · simp [fC, hn] at e
              subst e
              exact kl.mem z hz
          have good := DatL.all good
          have ev : ((x0 :: xs).filterMap fC).isEmpty = isCells (.tup (x0 :: xs)) := by
            show _ = (!(x0 :: xs).isEmpty && (x0 :: xs).all isNum)
            rw [show (!(x0 :: xs).isEmpty) = true from rfl, Bool.true_and]
            generalize x0 :: xs = ys
            induction ys with
            | nil => rfl
            | cons c cs ih =>
              rw [List.filterMap_cons, List.all_cons, ← ih]
              cases hs : isNum c <;> simp [fC, hs]
          generalize (x0 :: xs).filterMap fC = r at good ev ⊢
          rw [← ev] at q
          have g1 : Gw M1 (M1 ++ [MO.lst r]) := .new
          have g2 : Gw (M1 ++ [MO.lst r]) (M1 ++ [MO.lst r] ++ [MO.lst []]) := .new
          have a1 : (M1 ++ [MO.lst r] ++ [MO.lst []])[M1.length]? = some (.lst r) := g2 _ _ at_new
          have a2 : (M1 ++ [MO.lst r] ++ [MO.lst []])[M1.length + 1]? = some (.lst []) := by
            have := at_new (M := M1 ++ [MO.lst r]) (o := MO.lst [])
            rwa [List.length_append] at this
          have e2 := eq_nilL a1 a2 ((good.gw g1).gw g2) (by omega)
          simp at e2 ⊢
          have q := q _ (g0.trans (g1.trans g2))
          cases hr : r.isEmpty <;> simp [e2, hr] at q ⊢ <;> exact q
    | _ => simp [evSs, evS, ev, evs, evV, evT, evTs, evp, evI, evO, evG, run_ok, run_bind, run_when, run_of, hu1, h41, isTup]; exact q _ g0
  refine run_cons (s1 _ (run_cons (s2 _ fun M1 g1 => run_cons (s3 M1 _ g1 fun M2 g2 => run_cons ?_))))
  simp [evSs, evS, ev, evs, evV, evT, evTs, evp, evI, evO, evG, run_ok, run_bind, run_when, run_of]
  exact whole_run (k.gw g2) (by simp; exact ⟨by decide, w _ g2⟩)
end Lw

namespace Lw
open PySem L2 Cp
/-! ### the feed -/
def fd (c : Nat) (at_ left count : Int) : List (Key × D) := [(.inr "cells", .ref c), (.inr "at", .int at_), (.inr "left", .int left), (.inr "count", .int count)]
section
variable {c : Nat} {p q r v : Int}
theorem fd1 : lookD (fd c p q r) (.inr "cells") = some (.ref c) := by with_unfolding_all rfl
theorem fd2 : lookD (fd c p q r) (.inr "at") = some (.int p) := by with_unfolding_all rfl
theorem fd3 : lookD (fd c p q r) (.inr "left") = some (.int q) := by with_unfolding_all rfl
theorem fd4 : lookD (fd c p q r) (.inr "count") = some (.int r) := by with_unfolding_all rfl
theorem fp2 : putD (fd c p q r) (.inr "at") (.int v) = fd c v q r := by with_unfolding_all rfl
theorem fp3 : putD (fd c p q r) (.inr "left") (.int v) = fd c p v r := by with_unfolding_all rfl
theorem fp4 : putD (fd c p q r) (.inr "count") (.int v) = fd c p q v := by with_unfolding_all rfl
theorem fdl : (fd c p q r).length = 4 := rfl
end
def Feed (M : Mem) (a : Nat) (B : Nat) : Prop := ∃ (c : Nat) (l : List Int) (p q r : Int), M[a]? = some (.dct (fd c p q r)) ∧ c < a ∧ M[c]? = some (.lst (l.map D.int)) ∧ l.length ≤ 63 ∧ 0 ≤ p ∧ 0 ≤ q ∧ 0 ≤ r ∧ r ≤ B
theorem Feed.mono {M : Mem} {a B B' : Nat} (h : Feed M a B) (k : B ≤ B') : Feed M a B' := by
  obtain ⟨c, l, p, q, r, h1, h2, h3, h4, h5, h6, h7, h8⟩ := h
  exact ⟨c, l, p, q, r, h1, h2, h3, h4, h5, h6, h7, by omega⟩
theorem Feed.no {M : Mem} {a B : Nat} (h : Feed M a B) : ∀ xs, M[a]? ≠ some (.lst xs) := by
  obtain ⟨c, l, p, q, r, h1, _⟩ := h
  intro xs e
  rw [h1] at e
  cases e
theorem Feed.gw {M M' : Mem} {a B : Nat} (h : Feed M a B) (g : Gw M M') : Feed M' a B := by
  obtain ⟨c, l, p, q, r, h1, h2, h3, h4⟩ := h
  exact ⟨c, l, p, q, r, g _ _ h1, h2, g _ _ h3, h4⟩
theorem mul_ok {i j : Int} {k : Nat} (hi : i.natAbs < 2 ^ 200) (hj : j.natAbs < 2 ^ 200) : mulOk i j = true := by
  unfold mulOk
  refine decide_eq_true ?_
  have h : ∀ n : Nat, n < 2 ^ 200 → n.log2 < 200 := fun n hn => by
    by_cases h0 : n = 0
    · subst h0; rw [Nat.log2_zero]; omega
    · exact (Nat.log2_lt h0).mpr hn
  have := h _ hi
  have := h _ hj
  omega
theorem lo64 {i : Int} (h0 : 0 ≤ i) (h : i < 2 ^ 64) : i.natAbs < 2 ^ 200 := Nat.lt_of_lt_of_le (by omega : i.natAbs < 2 ^ 64) (Nat.pow_le_pow_right (by decide) (by decide))
theorem mul64 {i j : Int} (h0 : 0 ≤ i) (h : i < 2 ^ 64) (h0' : 0 ≤ j) (h' : j < 2 ^ 64) : mulOk i j = true := mul_ok (k := 0) (lo64 h0 h) (lo64 h0' h')
theorem div_ok {j : Int} (h0 : 0 < j) (h : j < 2 ^ 64) : divOk j = true := by
  unfold divOk
  rw [Bool.and_eq_true]
  refine ⟨decide_eq_true h0, decide_eq_true ?_⟩
  have : j.natAbs.log2 < 64 := (Nat.log2_lt (by omega)).mpr (by omega)
  omega
theorem eq_nilI {M : Mem} {a b : Nat} {l : List Int} (ha : M[a]? = some (.lst (l.map D.int))) (hb : M[b]? = some (.lst [])) : eqD M (.ref a) (.ref b) = some l.isEmpty := by
  have h1 : PyAll M (l.map D.int) (l.map PyData.int) := by
    clear ha
    induction l with
    | nil => exact .nil
    | cons i l ih => exact .cons (.int i) ih
  have h2 : PyData.canLayAll0 (l.map PyData.int) = true ∧ PyData.depthAll (l.map PyData.int) = 0 := by
    clear ha h1
    induction l with
    | nil => exact ⟨rfl, rfl⟩
    | cons i l ih => exact ⟨by show (true && PyData.canLayAll0 (l.map PyData.int)) = true; rw [ih.1]; rfl, by show max 0 (PyData.depthAll (l.map PyData.int)) = 0; rw [ih.2]; rfl⟩
  rw [eqD_of (.lst ha h1) (.lst hb .nil) (shaped_of h2.1 (by show PyData.depthAll (l.map PyData.int) + 1 ≤ 64; omega)) (shaped_of rfl (by decide))]
  cases l with
  | nil => rfl
  | cons _ _ => rfl
theorem pow18 : powOk 10 18 = true := by decide +kernel
theorem draw_run {n : Nat} {M : Mem} {a B : Nat} {many : Int} {Q : D × Mem → Prop} (hf : Feed M a B) (hB : B ≤ 1000000000) (h0 : 0 < many) (h1 : many < 2 ^ 64)
    (w : ∀ r M', 0 ≤ r → r < many → Feed M' a (B + 1) → Gr a M M' → Q (.int r, M')) : Run (callF g (n + 1) 4 [.ref a, .int many] M) Q := by
  obtain ⟨c, l, p, q, r, e1, lca, e2, hl, hp, hq, hr, hrB⟩ := hf
  have ne : c ≠ a := Nat.ne_of_lt lca
  refine run_call [.ref a, .int many] (F := f4) rfl rfl ?_
  show Run (evSs _ _ _ [some (.ref a), some (.int many), none, none, none, none] M) _
  refine run_cons ?_
  simp [evSs, evS, ev, evs, evV, evT, evTs, evp, evI, evO, evG, run_ok, run_bind, run_when, run_of, e1, idxD, keyD, fd4, binD, Lit.d, Cp.setItem, fdl, sizeLine_eq, fp4]
  -- the memory with one draw more
  have s1 : (M.set a (MO.dct (fd c p q (r + 1))))[a]? = some (.dct (fd c p q (r + 1))) := at_set e1
  have s2 : (M.set a (MO.dct (fd c p q (r + 1))))[c]? = some (.lst (l.map D.int)) := by rw [List.getElem?_set_ne (Ne.symm ne)]; exact e2
  have g1 : Gr a M (M.set a (MO.dct (fd c p q (r + 1)))) := .set
  generalize M.set a (MO.dct (fd c p q (r + 1))) = M1 at s1 s2 g1 ⊢
  have fin : ∀ (M2 : Mem) (p' q' : Int), Gr a M1 M2 → M2[a]? = some (.dct (fd c p' q' (r + 1))) → 0 ≤ p' → 0 ≤ q' → Feed M2 a (B + 1) := fun M2 p' q' gg h1 h2 h3 => ⟨c, l, p', q', r + 1, h1, lca, gg c _ ne s2, hl, h2, h3, by omega, by omega⟩
  have dk := div_ok h0 h1
  refine run_cons ?_
  by_cases hq0 : 0 < q
  · simp [evSs, evS, ev, evs, evV, evT, evTs, evp, evI, evO, evG, run_ok, run_bind, run_when, run_of, s1, idxD, keyD, fd3, binD, Lit.d, cmpD, truth, hq0, h0]
    refine run_cons ?_
    simp [evSs, evS, ev, evs, evV, evT, evTs, evp, evI, evO, evG, run_ok, run_bind, run_when, run_of, s1, idxD, keyD, fd3, binD, Lit.d, cmpD, truth, hq0, h0, dk, Cp.setItem, fdl, sizeLine_eq, fp3]
    refine run_cons ?_
    simp [evSs, evS, ev, evs, evV, evT, evTs, evp, evI, evO, evG, run_ok, run_bind, run_when, run_of]
    have m := Int.emod_nonneg q (by omega : many ≠ 0)
    have m2 := Int.emod_lt_of_pos q h0
    exact w _ _ m m2 (fin _ p (q / many) .set (at_set s1) hp (Int.ediv_nonneg hq (by omega))) (g1.trans .set)
  · simp [evSs, evS, ev, evs, evV, evT, evTs, evp, evI, evO, evG, run_ok, run_bind, run_when, run_of, s1, idxD, keyD, fd3, binD, Lit.d, cmpD, truth, hq0]
    refine run_cons ?_
    simp [evSs, evS, ev, evs, evV, evT, evTs, evp, evI, evO, evG, run_ok, run_bind, run_when, run_of, s1, idxD, keyD, fd2, Lit.d]
    refine run_cons ?_
    simp [evSs, evS, ev, evs, evV, evT, evTs, evp, evI, evO, evG, run_ok, run_bind, run_when, run_of, s1, idxD, keyD, fd2, binD, Lit.d, Cp.setItem, fdl, sizeLine_eq, fp2]
    have s3 : (M1.set a (MO.dct (fd c (p + 1) q (r + 1))))[a]? = some (.dct (fd c (p + 1) q (r + 1))) := at_set s1
    have s4 : (M1.set a (MO.dct (fd c (p + 1) q (r + 1))))[c]? = some (.lst (l.map D.int)) := by rw [List.getElem?_set_ne (Ne.symm ne)]; exact s2
    have g2 : Gr a M1 (M1.set a (MO.dct (fd c (p + 1) q (r + 1)))) := .set
    generalize M1.set a (MO.dct (fd c (p + 1) q (r + 1))) = M2 at s3 s4 g2 ⊢
    -- the cell
    have g3 : Gw M2 (M2 ++ [MO.lst []]) := .new
    have t1 := g3 _ _ s3
    have t2 := g3 _ _ s4
    have en := eq_nilI t2 (at_new (M := M2) (o := MO.lst []))
    have cell : ∀ Q', (∀ v, Q' (Fl.nx, [some (.ref a), some (.int many), none, some (.int p), some (.int v), none], M2 ++ [MO.lst []])) →
        Run (evS g (callF g n) (.asg (.nm 4) (.ite (.val (.cmp .ne (.idx (.var 0) (.lit (.str "cells"))) (.lst .nil))) (.idx (.idx (.var 0) (.lit (.str "cells"))) (.bin .mod (.var 3) (.bi .len (.cons (.idx (.var 0) (.lit (.str "cells"))) .nil)))) (.lit (.int 9))))
          [some (.ref a), some (.int many), none, some (.int p), none, none] M2) Q' := by
      intro Q' w'
      cases l with
      | nil => simp [evSs, evS, ev, evs, evV, evT, evTs, evp, evI, evO, evG, run_ok, run_bind, run_when, run_of, s3, idxD, keyD, fd1, Lit.d, newM, cmpD, en, truth, sizeLine_eq]; exact w' 9
      | cons l0 ls =>
        have hl0 : (0 : Int) < ((l0 :: ls).map D.int).length := by rw [List.length_map, List.length_cons]; omega
        have mm := Int.emod_nonneg p (by omega : ((((l0 :: ls).map D.int).length : Nat) : Int) ≠ 0)
        have mm2 := Int.emod_lt_of_pos p hl0
        obtain ⟨x, x1, x2⟩ := atI_mem mm mm2
        obtain ⟨v, _, rfl⟩ := List.mem_map.mp (List.mem_of_getElem? x2)
        have w' := w' v
        generalize (l0 :: ls).map D.int = L at t2 s4 en hl0 x1 ⊢
        simp [evSs, evS, ev, evs, evV, evT, evTs, evp, evI, evO, evG, run_ok, run_bind, run_when, run_of, s3, t1, idxD, keyD, fd1, Lit.d, newM, cmpD, en, truth, sizeLine_eq, biD, lenD, t2, binD, hl0, x1]
        exact ⟨by omega, w'⟩
    refine run_cons (cell _ fun v => ?_)
    clear cell
    have g4 : Gr a M2 (M2 ++ [MO.lst []]) := .new
    generalize M2 ++ [MO.lst []] = M3 at t1 t2 g4 ⊢
    show Run (evSs g (callF g n) f4_7 [some (.ref a), some (.int many), none, some (.int p), some (.int v), none] M3) _
    refine run_cons ?_
    have m := Int.emod_nonneg v (by omega : many ≠ 0)
    have m2 := Int.emod_lt_of_pos v h0
    have early : 0 ≤ v → Run (evSs g (callF g n) (.cons (.asg (.sb (.var 0) (.lit (.str "left"))) (.bin .fdiv (.var 4) (.var 1))) f4_3) [some (.ref a), some (.int many), none, some (.int p), some (.int v), none] M3) fun q => match q.1 with | .rt d => Q (d, q.2.2) | _ => False := fun v0 => by
      refine run_cons ?_
      simp [evSs, evS, ev, evs, evV, evT, evTs, evp, evI, evO, evG, run_ok, run_bind, run_when, run_of, t1, idxD, keyD, fd3, binD, Lit.d, h0, dk, Cp.setItem, fdl, sizeLine_eq, fp3]
      refine run_cons ?_
      simp [evSs, evS, ev, evs, evV, evT, evTs, evp, evI, evO, evG, run_ok, run_bind, run_when, run_of, h0, binD]
      exact w _ _ m m2 (fin _ (p + 1) (v / many) ((g2.trans g4).trans .set) (at_set t1) (by omega) (Int.ediv_nonneg v0 (by omega))) ((g1.trans (g2.trans g4)).trans .set)
    have late : Run (evSs g (callF g n) f4_6 [some (.ref a), some (.int many), none, some (.int p), some (.int v), none] M3) fun q => match q.1 with | .rt d => Q (d, q.2.2) | _ => False := by
      refine run_cons ?_
      have b1 := Int.emod_nonneg v (by decide : (1000000087 : Int) ≠ 0)
      have b2 := Int.emod_lt_of_pos v (by decide : (0 : Int) < 1000000087)
      have k1 : mulOk 80021 (r + 1) = true := mul64 (by decide) (by decide) (by omega) (by omega)
      simp [evSs, evS, ev, evs, evV, evT, evTs, evp, evI, evO, evG, run_ok, run_bind, run_when, run_of, t1, idxD, keyD, fd4, binD, Lit.d, k1]
      generalize (v % 1000000087 + 80021 * (r + 1) + 41) = x1
      have b3 := Int.emod_nonneg x1 (by decide : (2147483579 : Int) ≠ 0)
      have b4 := Int.emod_lt_of_pos x1 (by decide : (0 : Int) < 2147483579)
      generalize x1 % 2147483579 = x2 at b3 b4 ⊢
      refine run_cons ?_
      have k2 : mulOk x2 x2 = true := mul64 b3 (by omega) b3 (by omega)
      have k3 : mulOk 5915587 (r + 1) = true := mul64 (by decide) (by decide) (by omega) (by omega)
      simp [evSs, evS, ev, evs, evV, evT, evTs, evp, evI, evO, evG, run_ok, run_bind, run_when, run_of, t1, idxD, keyD, fd4, binD, Lit.d, k2, k3]
      generalize (x2 * x2 + 5915587 * (r + 1) + 11) = x3
      have b5 := Int.emod_nonneg x3 (by decide : (2147483549 : Int) ≠ 0)
      have b6 := Int.emod_lt_of_pos x3 (by decide : (0 : Int) < 2147483549)
      generalize x3 % 2147483549 = x4 at b5 b6 ⊢
      refine run_cons ?_
      have k4 : mulOk x4 x4 = true := mul64 b5 (by omega) b5 (by omega)
      have k5 : mulOk 19 x4 = true := mul64 (by decide) (by decide) b5 (by omega)
      have k6 : divOk 16 = true := div_ok (by decide) (by decide)
      simp [evSs, evS, ev, evs, evV, evT, evTs, evp, evI, evO, evG, run_ok, run_bind, run_when, run_of, binD, Lit.d, k4, k5, k6, h0]
      exact w _ _ (Int.emod_nonneg _ (by omega)) (Int.emod_lt_of_pos _ h0) (fin _ (p + 1) q (g2.trans g4) t1 (by omega) hq) (g1.trans (g2.trans g4))
    have iff7 : Run (evS g (callF g n) (.iff (.bool true (.cons (.val (.cmp .ge (.var 4) (.bin .pow (.lit (.int 10)) (.lit (.int 18))))) (.cons (.val (.cmp .lt (.var 3) (.bi .len (.cons (.idx (.var 0) (.lit (.str "cells"))) .nil)))) .nil))) (.cons (.asg (.sb (.var 0) (.lit (.str "left"))) (.bin .fdiv (.var 4) (.var 1))) f4_3) .nil)
        [some (.ref a), some (.int many), none, some (.int p), some (.int v), none] M3) fun q => match q.1 with | .rt d => Q (d, q.2.2) | .nx => q.2 = ([some (.ref a), some (.int many), none, some (.int p), some (.int v), none], M3) | _ => False := by
      generalize l.map D.int = L at t2
      by_cases c1 : (1000000000000000000 : Int) ≤ v
      · by_cases c2 : p < (L.length : Nat)
        · have := early (by omega)
          generalize (Ss.cons (.asg (.sb (.var 0) (.lit (.str "left"))) (.bin .fdiv (.var 4) (.var 1))) f4_3) = blk at this ⊢
          simp [evSs, evS, ev, evs, evV, evT, evTs, evp, evI, evO, evG, run_ok, run_bind, run_when, run_of, t1, idxD, keyD, fd1, binD, Lit.d, pow18, cmpD, truth, c1, biD, lenD, t2, c2]
          exact .inr (this.mono fun q hq => by
            obtain ⟨fl, s', M'⟩ := q
            cases fl <;> first | exact hq | exact hq.elim)
        · simp [evSs, evS, ev, evs, evV, evT, evTs, evp, evI, evO, evG, run_ok, run_bind, run_when, run_of, t1, idxD, keyD, fd1, binD, Lit.d, pow18, cmpD, truth, c1, biD, lenD, t2, c2]
          omega
      · simp [evSs, evS, ev, evs, evV, evT, evTs, evp, evI, evO, evG, run_ok, run_bind, run_when, run_of, t1, idxD, keyD, fd1, binD, Lit.d, pow18, cmpD, truth, c1]
    refine iff7.mono fun q hq => ?_
    obtain ⟨fl, s', M'⟩ := q
    cases fl with
    | rt d => exact hq
    | nx =>
      cases hq
      exact late.mono fun q hq => by
        obtain ⟨fl, s', M'⟩ := q
        cases fl <;> first | exact hq | exact hq.elim
    | bk => exact hq.elim
    | ct => exact hq.elim
end Lw

namespace Lw
open PySem L2 Cp
theorem at0 {α : Type} {M : List α} {x : α} {L : List α} : (M ++ x :: L)[M.length]? = some x := by rw [List.getElem?_append_right (Nat.le_refl _), Nat.sub_self]; rfl
theorem at1 {α : Type} {M : List α} {x y : α} {L : List α} : (M ++ x :: y :: L)[M.length + 1]? = some y := by rw [List.getElem?_append_right (by omega), Nat.add_sub_cancel_left]; rfl
theorem at2 {α : Type} {M : List α} {x y z : α} {L : List α} : (M ++ x :: y :: z :: L)[M.length + 2]? = some z := by rw [List.getElem?_append_right (by omega), Nat.add_sub_cancel_left]; rfl
theorem at3 {α : Type} {M : List α} {x y z u : α} {L : List α} : (M ++ x :: y :: z :: u :: L)[M.length + 3]? = some u := by rw [List.getElem?_append_right (by omega), Nat.add_sub_cancel_left]; rfl
theorem gwA {M L : Mem} : Gw M (M ++ L) := fun i u e => by rw [List.getElem?_append_left (List.getElem?_eq_some_iff.mp e).1]; exact e
theorem at_lt {M L : Mem} {i : Nat} {o : MO} (e : M[i]? = some o) : (M ++ L)[i]? = some o := gwA _ _ e
theorem fdm {c : Nat} : mergeD [] [(.inr "cells", .ref c), (.inr "at", .int 0), (.inr "left", .int 0), (.inr "count", .int 0)] = fd c 0 0 0 := by with_unfolding_all rfl
theorem feed_run {n : Nat} {ns : List Int} {Q : D × Mem → Prop} (hl : ns.length ≤ 63) (w : ∀ M' a, Feed M' a 0 → Q (.ref a, M')) : Run (callF g (n + 1) 3 [.frl (ns.map .int)] []) Q := by
  refine run_call [.frl (ns.map .int)] (F := f3) rfl rfl ?_
  show Run (evSs _ _ _ [some (.frl (ns.map .int))] []) _
  simp [f3, evSs, evS, ev, evs, evV, evT, evTs, evp, evI, evO, evG, run_ok, run_bind, run_when, run_of, Lit.d, slcD, newM, biD, itemsD, pairsD, keyD]
  refine w _ _ ⟨1, ns.take 63, 0, 0, 0, ?_, by decide, ?_, by rw [List.length_take]; omega, Int.le_refl _, Int.le_refl _, Int.le_refl _, Int.le_refl _⟩
  · have := fdm (c := 1)
    show some (MO.dct (mergeD [] _)) = _
    rw [← this]
  · show some (MO.lst _) = some (MO.lst _)
    congr 2
    have h1 : HT.sIx (ns.map D.int).length 0 none = 0 := rfl
    have h2 : HT.sIx (ns.map D.int).length (ns.map D.int).length (some 63) = min 63 ns.length := by rw [show (63 : Int) = ((63 : Nat) : Int) from rfl, HT.sIx_nat, List.length_map]
    unfold cutL
    rw [h1, h2]
    rw [List.drop_zero, Nat.sub_zero, List.map_take, Nat.min_eq_right hl, List.take_of_length_le (by rw [List.length_map]; omega), List.take_of_length_le (by rw [List.length_map]; omega)]
theorem Gr.len {M M' : Mem} {a B : Nat} (g : Gr a M M') (f : Feed M' a B) : M.length ≤ M'.length := by
  by_cases h : M.length ≤ M'.length
  · exact h
  · exfalso
    have hl : M.length - 1 < M.length := by omega
    by_cases e : M.length - 1 = a
    · obtain ⟨c, l, p, q, r, h1, _⟩ := f
      have := (List.getElem?_eq_some_iff.mp h1).1
      omega
    · have := g _ _ e (List.getElem?_eq_getElem hl)
      have := (List.getElem?_eq_some_iff.mp this).1
      omega
theorem pick {P : D → Prop} {L : List D} {i : Int} (h0 : 0 ≤ i) (h1 : i < L.length) (h : ∀ x ∈ L, P x) : ∃ x, atI L i = some x ∧ P x := by
  obtain ⟨x, e1, e2⟩ := atI_mem h0 h1
  exact ⟨x, e1, h x (List.mem_of_getElem? e2)⟩
theorem all_cons {P : D → Prop} {x : D} {L : List D} (h : P x) (k : ∀ y ∈ L, P y) : ∀ y ∈ x :: L, P y := fun y hy => by
  rcases List.mem_cons.mp hy with rfl | hy
  · exact h
  · exact k y hy
theorem all_nil {P : D → Prop} : ∀ y ∈ ([] : List D), P y := fun y hy => by cases hy
theorem log_le {n m : Nat} (h : m ≤ n + 1) : m.log2 ≤ n.log2 + 1 := by
  by_cases h0 : m = 0
  · subst h0; rw [Nat.log2_zero]; omega
  · have h1 : n < 2 ^ (n.log2 + 1) := Nat.lt_log2_self
    have h2 : m < 2 ^ (n.log2 + 2) := by rw [Nat.pow_succ]; omega
    have := (Nat.log2_lt h0).mpr h2
    omega
theorem ok_text (s : String) : PyData.strOk (Str.ofString s) = true := by
  rw [Str.ofString_eq_toList]
  unfold PyData.strOk
  rw [Array.all_eq_true']
  intro c hc
  have hc : c ∈ s.toList.map Char.toNat := by simpa using hc
  obtain ⟨x, _, rfl⟩ := List.mem_map.mp hc
  have := x.valid
  have : x.toNat < 0x110000 := by
    rcases this with h | h
    · exact Nat.lt_trans h (by decide)
    · exact h.2
  exact decide_eq_true this
theorem len_text (i : Int) : (Str.ofString (toString i)).length ≤ i.natAbs.log2 + 2 := by
  have := int_text_length_le (a := i) (k := i.natAbs.log2 + 1) (by omega) (by omega)
  rw [Str.ofString_eq_toList]
  show (List.toArray _).size ≤ _
  rw [List.size_toArray, List.length_map]
  exact this
theorem Dat.of_int {M : Mem} {i : Int} {c h lb : Nat} (w : i.natAbs.log2 < lb) (hc : i.natAbs.log2 + 2 ≤ c) : Dat M (.int i) c h lb := (Dat.int w).mono hc (Nat.zero_le _)
theorem Dat.of_str {M : Mem} {x : Str} {c h lb : Nat} (w : PyData.strOk x = true) (hc : 10 * x.length + 2 ≤ c) : Dat M (.str x) c h lb := (Dat.str w).mono hc (Nat.zero_le _)
theorem Dat.of_bl {M : Mem} {b : Bool} {c h lb : Nat} (hc : 5 ≤ c) : Dat M (.bl b) c h lb := (Dat.bl b).mono hc (Nat.zero_le _)
theorem Dat.of_non {M : Mem} {c h lb : Nat} (hc : 4 ≤ c) : Dat M .non c h lb := Dat.non.mono hc (Nat.zero_le _)
theorem Dat.of_tup {M : Mem} {xs : List D} {c c' h h' lb : Nat} (k : DatL M xs c' h' lb) (hc : c' + 3 ≤ c) (hh : h' + 1 ≤ h) : Dat M (.tup xs) c h lb := (Dat.tup k).mono hc hh
theorem Dat.of_lst {M : Mem} {xs : List D} {i c c' h h' lb : Nat} (e : M[i]? = some (.lst xs)) (k : DatL M xs c' h' lb) (hc : c' + 2 ≤ c) (hh : h' + 1 ≤ h) : Dat M (.ref i) c h lb := (Dat.lst e k).mono hc hh
theorem DatL.one {M : Mem} {d : D} {c h lb : Nat} (k : Dat M d c h lb) : DatL M [d] (c + 2) h lb := (DatL.cons k (DatL.nil (lb := lb))).mono (by omega) (by omega)
theorem pow60 : powOk 10 60 = true := by decide +kernel
theorem log60 : ((10 : Int) ^ 60).natAbs.log2 = 199 := by decide +kernel
/-- the int options of a bent thing -/
theorem opt_int {V : Mem} {i j : Int} {c h lb : Nat} (hi : i.natAbs.log2 < lb) (hc : i.natAbs.log2 + 2 ≤ c) (hj : j.natAbs ≤ i.natAbs + 1) : Dat V (.int j) (10 * c + 300) (h + 1) (lb + 1) := by
  have := log_le hj
  exact Dat.of_int (by omega) (by omega)
end Lw

namespace Lw
open PySem L2 Cp
theorem eq_bi {M : Mem} {b : Bool} {i : Int} : ∃ k, eqD M (.bl b) (.int i) = some k := ⟨_, eqD_of (.bl b) (.int i) (shaped_of rfl (Nat.zero_le _)) (shaped_of rfl (Nat.zero_le _))⟩
theorem vw_new {S : Nat → Bool} {M : Mem} {xs : List D} {L : Mem} {i : Nat} (hS : ∀ i, M.length ≤ i → S i = false) (hi : M.length ≤ i) (e : (M ++ L)[i]? = some (.lst xs)) : (vw S (M ++ L))[i]? = some (.lst xs) := vw_lst.mpr ⟨hS i hi, e⟩
theorem c_int {V : Mem} {i : Int} {c h lb : Nat} (e : i.natAbs.log2 = 0) (hc : 2 ≤ c) (hb : 0 < lb) : Dat V (.int i) c h lb := Dat.of_int (by rw [e]; exact hb) (by rw [e]; exact hc)
theorem c_str {V : Mem} {s : String} {k c h lb : Nat} (e : (Str.ofString s).length = k) (hc : 10 * k + 2 ≤ c) : Dat V (.str (Str.ofString s)) c h lb := Dat.of_str (ok_text s) (by rw [e]; exact hc)
theorem bent_rest {S : Nat → Bool} {n : Nat} {M : Mem} {a B : Nat} {d : D} {c h lb : Nat} {P : D → Mem → Prop} (hf : Feed M a B) (hB : B ≤ 1000000000) (hd : Dat (vw S M) d c h lb) (hl : 250 ≤ lb) (hl2 : lb ≤ 1900) (hc : c ≤ 1000000) (hS : ∀ i, M.length ≤ i → S i = false)
    (w : ∀ d' M', Dat (vw S M') d' (10 * c + 300) (h + 1) (lb + 1) → Feed M' a (B + 1) → Gr a M M' → P d' M') :
    Run (evSs g (callF g (n + 1)) f5_6 [some (.ref a), some d, none, none, none] M) fun q => match q.1 with | .rt d' => P d' q.2.2 | .nx => P .non q.2.2 | _ => False := by
  refine run_cons ?_
  simp [evSs, evS, ev, evs, evV, evT, evTs, evp, evI, evO, evG, run_ok, run_bind, run_when, run_of, Lit.d]
  refine draw_run hf hB (by decide) (by decide) fun mode M1 h0 h1 hf1 g1 => ?_
  simp
  have hd1 : Dat (vw S M1) d c h lb := hd.gl (Gl.vw (g1.gl hf.no))
  have hS1 : ∀ i, M1.length ≤ i → S i = false := fun i hi => hS i (Nat.le_trans (Gr.len g1 hf1) hi)
  have w : ∀ d' L, Dat (vw S (M1 ++ L)) d' (10 * c + 300) (h + 1) (lb + 1) → P d' (M1 ++ L) := fun d' L k => w d' _ k (hf1.gw gwA) (g1.trans gwA.gr)
  have up : ∀ {x : D} {c' h' : Nat} (L : Mem), Dat (vw S M1) x c' h' lb → c' ≤ 10 * c + 300 → h' ≤ h + 1 → Dat (vw S (M1 ++ L)) x (10 * c + 300) (h + 1) (lb + 1) := fun L k e1 e2 => ((k.gl (Gl.vw gwA.gl)).mono e1 e2).low (Nat.le_succ _)
  obtain ⟨u, hu, k1, k2, k3, k4⟩ := ty_all (hd1.gl vw_self)
  refine run_cons ?_
  have tail : isTup d = false → Run (evSs g (callF g (n + 1)) f5_4 [some (.ref a), some d, none, some (.int mode), none] M1) fun q => match q.1 with | .rt d' => P d' q.2.2 | .nx => P .non q.2.2 | _ => False := by
    intro ht
    refine run_cons ?_
    cases hi : isInt d with
    | false =>
      simp [evSs, evS, ev, evs, evV, evT, evTs, evp, evI, evO, evG, run_ok, run_bind, run_when, run_of, hu, k1, hi, truth]
      refine run_cons ?_
      simp [evSs, evS, ev, evs, evV, evT, evTs, evp, evI, evO, evG, run_ok, run_bind, run_when, run_of, Lit.d, newM, sizeLine_eq, idxD]
      refine Exists.elim (pick h0 ?_ ?_) fun x hx => ⟨x, hx.1, w x _ hx.2⟩
      · show mode < 9; exact h1
      · intro x hx
        simp only [List.mem_cons, List.not_mem_nil, or_false] at hx
        rcases hx with rfl | rfl | rfl | rfl | rfl | rfl | rfl | rfl | rfl
        · exact Dat.of_non (by omega)
        · exact Dat.of_bl (by omega)
        · exact c_int (by decide +kernel) (by omega) (by omega)
        · exact c_int (by decide +kernel) (by omega) (by omega)
        · exact c_str (k := 0) (by decide +kernel) (by omega)
        · exact Dat.of_tup (DatL.nil (lb := lb + 1)) (by omega) (by omega)
        · exact Dat.of_lst (vw_new hS1 (Nat.le_refl _) at0) (DatL.nil (lb := lb + 1)) (by omega) (by omega)
        · exact c_int (by decide +kernel) (by omega) (by omega)
        · exact c_str (k := 1) (by decide +kernel) (by omega)
    | true =>
      cases d with
      | int i =>
        obtain ⟨i1, i2⟩ := hd1.lo
        have i3 : i.natAbs.log2 < 1920 := by omega
        simp [evSs, evS, ev, evs, evV, evT, evTs, evp, evI, evO, evG, run_ok, run_bind, run_when, run_of, hu, k1, isInt, truth, Lit.d, binD, biD, i3, cmpD, eq_int, pow60, newM, sizeLine_eq, idxD]
        refine Exists.elim (pick h0 ?_ ?_) fun x hx => ⟨x, hx.1, w x _ hx.2⟩
        · show mode < 9; exact h1
        · intro x hx
          simp only [List.mem_cons, List.not_mem_nil, or_false] at hx
          rcases hx with rfl | rfl | rfl | rfl | rfl | rfl | rfl | rfl | rfl
          · exact opt_int i1 i2 (by omega)
          · exact opt_int i1 i2 (by omega)
          · exact Dat.of_bl (by omega)
          · have := len_text i
            exact Dat.of_str (ok_text _) (by have e : (Str.ofString i.repr).length = (Str.ofString (toString i)).length := rfl
                                             omega)
          · exact Dat.of_non (by omega)
          · exact Dat.of_tup (DatL.one (Dat.of_int (c := c) (h := 0) (lb := lb + 1) (by omega) i2)) (by omega) (by omega)
          · exact c_int (by decide +kernel) (by omega) (by omega)
          · exact c_int (by decide +kernel) (by omega) (by omega)
          · have e : (1000000000000000000000000000000000000000000000000000000000000 : Int).natAbs.log2 = 199 := by decide +kernel
            exact Dat.of_int (by omega) (by omega)
      | bl t =>
        obtain ⟨kk, ek⟩ := eq_bi (M := M1) (b := t) (i := 1)
        have hj : ∀ (V : Mem) (j : Int), j.natAbs ≤ 2 → Dat V (.int j) (10 * c + 300) (h + 1) (lb + 1)   := fun V j hj => by
          have : j.natAbs.log2 ≤ 1 := by
            have := log_le (n := 1) hj
            have e : (1 : Nat).log2 = 0 := by decide +kernel
            omega
          exact Dat.of_int (by omega) (by omega)
        simp [evSs, evS, ev, evs, evV, evT, evTs, evp, evI, evO, evG, run_ok, run_bind, run_when, run_of, hu, k1, isInt, truth, Lit.d, binD, biD, cmpD, ek, pow60, newM, sizeLine_eq, idxD]
        refine Exists.elim (pick h0 ?_ ?_) fun x hx => ⟨x, hx.1, w x _ hx.2⟩
        · show mode < 9; exact h1
        · intro x hx
          simp only [List.mem_cons, List.not_mem_nil, or_false] at hx
          rcases hx with rfl | rfl | rfl | rfl | rfl | rfl | rfl | rfl | rfl
          · exact hj _ _ (by cases t <;> decide)
          · exact hj _ _ (by cases t <;> decide)
          · exact Dat.of_bl (by omega)
          · cases t
            · exact c_str (k := 5) (by decide +kernel) (by omega)
            · exact c_str (k := 4) (by decide +kernel) (by omega)
          · exact Dat.of_non (by omega)
          · exact Dat.of_tup (DatL.one (Dat.of_bl (c := 5) (h := 0) (lb := lb + 1) (Nat.le_refl _))) (by omega) (by omega)
          · exact c_int (by decide +kernel) (by omega) (by omega)
          · exact c_int (by decide +kernel) (by omega) (by omega)
          · have e : (1000000000000000000000000000000000000000000000000000000000000 : Int).natAbs.log2 = 199 := by decide +kernel
            exact Dat.of_int (by omega) (by omega)
      | _ => cases hi
  cases ht : isTup d with
  | false =>
    have tail := tail ht
    simp [evSs, evS, ev, evs, evV, evT, evTs, evp, evI, evO, evG, run_ok, run_bind, run_when, run_of, hu, k4, ht, truth]
    exact tail
  | true =>
    cases d with
    | tup xs =>
      obtain ⟨c0, hh0, dl, e0, e1⟩ := hd1.tupL'
      have ln := dl.len
      have ln2 : xs.length + xs.length ≤ 16777216 := by omega
      have dl1 : ∀ L : Mem, DatL (vw S (M1 ++ L)) xs c0 hh0 (lb + 1) := fun L => (dl.gl (Gl.vw gwA.gl)).low (Nat.le_succ _)
      simp [evSs, evS, ev, evs, evV, evT, evTs, evp, evI, evO, evG, run_ok, run_bind, run_when, run_of, hu, k4, isTup, truth, Lit.d, binD, biD, itemsD, newM, sizeLine_eq, ln2, revD, slcD]
      refine run_cons ?_
      simp [evSs, evS, ev, evs, evV, evT, evTs, evp, evI, evO, evG, run_ok, run_bind, run_when, run_of, Lit.d, binD, newM, sizeLine_eq, idxD, at0, at1, at2, at3, Nat.add_assoc, List.getElem_append_right]
      refine ⟨by omega, Exists.elim (pick h0 ?_ ?_) fun x hx => ⟨x, hx.1, w x _ hx.2⟩⟩
      · show mode < 9; exact h1
      · intro x hx
        simp only [List.mem_cons, List.not_mem_nil, or_false] at hx
        rcases hx with rfl | rfl | rfl | rfl | rfl | rfl | rfl | rfl | rfl
        · exact Dat.of_lst (vw_new hS1 (Nat.le_refl _) at0) (dl1 _) (by omega) (by omega)
        · exact Dat.of_tup (dl1 _).rev (by omega) (by omega)
        · exact Dat.of_tup (DatL.one (Dat.of_tup (c := c) (h := h) (dl1 _) e0 e1)) (by omega) (by omega)
        · exact Dat.of_tup ((dl1 _).append (dl1 _)) (by omega) (by omega)
        · exact Dat.of_tup (DatL.nil (lb := lb + 1)) (by omega) (by omega)
        · exact Dat.of_non (by omega)
        · exact Dat.of_tup ((dl1 _).cut _ _) (by omega) (by omega)
        · exact Dat.of_tup ((dl1 _).cut _ _) (by omega) (by omega)
        · exact Dat.of_tup ((dl1 _).append (DatL.one (Dat.non (lb := lb + 1)))) (by omega) (by omega)
    | _ => cases ht
end Lw

namespace Lw
open PySem L2 Cp
theorem cut_lo {xs : List D} {i : Nat} (h : i ≤ xs.length) : cutL xs none (some (i : Int)) = xs.take i := by
  unfold cutL
  rw [HT.sIx_none, HT.sIx_nat, List.drop_zero, Nat.sub_zero, Nat.min_eq_left h]
theorem cut_hi {xs : List D} {i : Nat} (h : i ≤ xs.length) : cutL xs (some (i : Int)) none = xs.drop i := by
  unfold cutL
  rw [HT.sIx_none, HT.sIx_nat, Nat.min_eq_left h, List.take_of_length_le (by rw [List.length_drop]; exact Nat.le_refl _)]
theorem bent_run {S : Nat → Bool} : ∀ (h n : Nat) {M : Mem} {a B : Nat} {d : D} {c lb : Nat} {Q : D × Mem → Prop}, Feed M a B → B + 3 * h + 3 ≤ 1000000000 → Dat (vw S M) d c h lb → 250 ≤ lb → lb ≤ 1900 → c ≤ 1000000 → h ≤ 60 → (∀ i, M.length ≤ i → S i = false) →
    (∀ d' M', Dat (vw S M') d' (10 * c + 300) (h + 1) (lb + 1) → Feed M' a (B + 3 * h + 3) → Gr a M M' → Q (d', M')) → Run (callF g (n + h + 2) 5 [.ref a, d] M) Q := by
  intro h
  induction h with
  | zero =>
    intro n M a B d c lb Q hf hB hd hl hl2 hc hh hS w
    refine run_call [.ref a, d] (F := f5) rfl rfl ?_
    show Run (evSs _ _ _ [some (.ref a), some d, none, none, none] M) _
    obtain ⟨u, hu, _, _, _, k4⟩ := ty_all (hd.gl vw_self)
    refine run_cons ?_
    have ht : isTup d = false := by
      cases d with
      | tup xs => obtain ⟨c0, h0, _, _, e⟩ := hd.tupL'; omega
      | _ => rfl
    simp [evSs, evS, ev, evs, evV, evT, evTs, evp, evI, evO, evG, run_ok, run_bind, run_when, run_of, hu, k4, ht, truth]
    refine (bent_rest (n := n) hf (by omega) hd hl hl2 hc hS (P := fun d' M' => Q (d', M')) fun d' M' k1 k2 k3 => w d' M' k1 (k2.mono (by omega)) k3).mono fun q hq => ?_
    obtain ⟨fl, s', M'⟩ := q
    cases fl <;> exact hq
  | succ h ih =>
    intro n M a B d c lb Q hf hB hd hl hl2 hc hh hS w
    refine run_call [.ref a, d] (F := f5) rfl rfl ?_
    show Run (evSs _ (callF g (n + h + 2)) _ [some (.ref a), some d, none, none, none] M) _
    obtain ⟨u, hu, _, _, _, k4⟩ := ty_all (hd.gl vw_self)
    have rest : ∀ (M1 : Mem) (B1 : Nat), Feed M1 a B1 → B1 ≤ B + 1 → Gr a M M1 → Run (evSs g (callF g (n + h + 2)) f5_6 [some (.ref a), some d, none, none, none] M1) fun q => match q.1 with | .rt d' => Q (d', q.2.2) | .nx => Q (.non, q.2.2) | _ => False := by
      intro M1 B1 f1 b1 g1
      refine (bent_rest (n := n + h + 1) f1 (by omega) (hd.gl (Gl.vw (g1.gl hf.no))) hl hl2 hc (fun i hi => hS i (Nat.le_trans (Gr.len g1 f1) hi)) (P := fun d' M' => Q (d', M')) fun d' M' k1 k2 k3 => w d' M' k1 (k2.mono (by omega)) (g1.trans k3)).mono fun q hq => ?_
      obtain ⟨fl, s', M'⟩ := q
      cases fl <;> exact hq
    refine run_cons ?_
    cases ht : isTup d with
    | false =>
      simp [evSs, evS, ev, evs, evV, evT, evTs, evp, evI, evO, evG, run_ok, run_bind, run_when, run_of, hu, k4, ht, truth]
      exact rest M B hf (by omega) .refl
    | true =>
      cases d with
      | tup xs =>
        have e0 := eq_nilT ((hd.gl vw_self).tupL) (by omega)
        cases xs with
        | nil =>
          simp [evSs, evS, ev, evs, evV, evT, evTs, evp, evI, evO, evG, run_ok, run_bind, run_when, run_of, hu, k4, ht, truth, cmpD, e0]
          exact rest M B hf (by omega) .refl
        | cons x0 xs =>
          simp [evSs, evS, ev, evs, evV, evT, evTs, evp, evI, evO, evG, run_ok, run_bind, run_when, run_of, hu, k4, ht, truth, cmpD, e0, Lit.d]
          refine draw_run hf (by omega) (by decide) (by decide) fun r M1 r0 r1 hf1 g1 => ?_
          by_cases hr : 0 < r
          · simp [hr]
            clear e0
            have hpos : 0 < (x0 :: xs).length := by rw [List.length_cons]; omega
            generalize x0 :: xs = ys at hd hu hpos ⊢
            simp [biD, lenD]
            obtain ⟨c0, h0, dl, e0, e1⟩ := hd.tupL'
            have ln := dl.len
            refine draw_run hf1 (by omega) (by omega) (by omega) fun k M2 m0 m1 hf2 g2 => ?_
            obtain ⟨k, rfl⟩ := Int.eq_ofNat_of_zero_le m0
            have m1 : k < ys.length := by omega
            have g3 := g1.trans g2
            refine run_cons ?_
            have ek := cut_lo (Nat.le_of_lt m1)
            have ek2 := cut_hi (xs := ys) (i := k + 1) m1
            obtain ⟨y, ey, ey2⟩ := atI_mem (xs := ys) m0 (by omega)
            have ey2 : ys[k]? = some y := ey2
            have dl2 := dl.gl (Gl.vw (g3.gl hf.no))
            obtain ⟨c1, c2, c3, a1, a2, a3, a4⟩ := dl2.swap ey2
            have hS2 : ∀ i, M2.length ≤ i → S i = false := fun i hi => hS i (Nat.le_trans (Gr.len g3 hf2) hi)
            simp [evSs, evS, ev, evs, evV, evT, evTs, evp, evI, evO, evG, run_ok, run_bind, run_when, run_of, Lit.d, slcD, idxD]
            refine ⟨y, ey, ?_⟩
            refine ih n hf2 (by omega) (a2.mono (Nat.le_refl _) (by omega)) hl hl2 (by omega) (by omega) hS2 fun d' M3 b1 b2 b3 => ?_
            have lt : (ys.take k).length ≤ ys.length := by rw [List.length_take]; omega
            have ld : (ys.drop (k + 1)).length ≤ ys.length := by rw [List.length_drop]; omega
            have up := Gl.vw (S := S) (b3.gl hf2.no)
            simp [binD, sizeLine_eq, Lit.d, slcD]
            have ek3 : cutL ys (some ((k : Int) + 1)) none = ys.drop (k + 1) := ek2
            rw [ek3, show cutL ys none (some (k : Int)) = ys.take k from ek]
            simp only [List.length_take, List.length_drop] at lt ld ⊢
            refine ⟨by omega, by omega, w _ _ ?_ (b2.mono (by omega)) (g3.trans b3)⟩
            have t1 := (a1.gl up).low (Nat.le_succ lb)
            have t3 := (a3.gl up).low (Nat.le_succ lb)
            have := (t1.append (DatL.cons b1 t3))
            exact Dat.of_tup this (by omega) (by omega)
          · simp [hr]
            exact rest M1 (B + 1) hf1 (Nat.le_refl _) g1
      | _ => cases ht
end Lw

namespace Lw
open PySem L2 Cp
theorem ok_app {x y : Str} (hx : PyData.strOk x = true) (hy : PyData.strOk y = true) : PyData.strOk (x ++ y) = true := by
  show (x.cps ++ y.cps).all _ = true
  rw [Array.all_append]
  show (PyData.strOk x && PyData.strOk y) = true
  rw [hx, hy]; rfl
theorem ok_fold {z : Str} (hz : PyData.strOk z = true) : ∀ (ps : List Str) (acc : Array Nat), PyData.strOk ⟨acc⟩ = true → (∀ p ∈ ps, PyData.strOk p = true) → PyData.strOk ⟨ps.foldl (fun acc p => acc ++ z.cps ++ p.cps) acc⟩ = true
  | [], _, h, _ => h
  | p :: ps, acc, h, k => ok_fold hz ps _ (ok_app (ok_app h hz) (k p List.mem_cons_self)) fun q hq => k q (List.mem_cons_of_mem _ hq)
theorem ok_join {z : Str} {ps : List Str} (hz : PyData.strOk z = true) (k : ∀ p ∈ ps, PyData.strOk p = true) : PyData.strOk (Txt.join z ps) = true := by
  cases ps with
  | nil => exact ok_fold hz [] _ (by decide +kernel) (fun p hp => by cases hp)
  | cons p ps => exact ok_fold hz ps _ (k p List.mem_cons_self) fun q hq => k q (List.mem_cons_of_mem _ hq)
theorem len_join0 {ps : List Str} : (Txt.join (Str.ofString "") ps).length = (ps.map (·.length)).sum := by
  show (Builtin.Str.glued _ ps).length = _
  rw [size_glued]
  have : (Str.ofString "").length = 0 := by decide +kernel
  rw [this, Nat.mul_zero, Nat.add_zero]
theorem sum_ones : ∀ {ps : List Str}, (∀ p ∈ ps, p.length = 1) → (ps.map (·.length)).sum = ps.length
  | [], _ => rfl
  | p :: ps, h => by
    rw [List.map_cons, List.sum_cons, h p List.mem_cons_self, sum_ones fun q hq => h q (List.mem_cons_of_mem _ hq), List.length_cons]
    omega
theorem strsD_map (ys : List Str) : strsD (ys.map D.str) = some ys := by
  induction ys with
  | nil => rfl
  | cons y ys ih => show (strsD (ys.map D.str)).map _ = _; rw [ih]; rfl
theorem ok_at {x : Str} (h : PyData.strOk x = true) {c : Nat} {i : Int} (e : atI x.cps.toList i = some c) : PyData.strOk ⟨#[c]⟩ = true := by
  refine ok_chars h ?_
  unfold atI at e
  obtain ⟨j, _, e⟩ := Option.bind_eq_some_iff.mp e
  exact List.mem_of_getElem? e
theorem ok_cut {x : Str} (h : PyData.strOk x = true) (lo hi : Option Int) : PyData.strOk (cutS x lo hi) = true := by
  unfold PyData.strOk at h ⊢
  rw [Array.all_eq_true'] at h ⊢
  intro c hc
  unfold cutS at hc
  have hc : c ∈ (x.cps.toList.drop (HT.sIx x.length 0 lo)).take (HT.sIx x.length x.length hi - HT.sIx x.length 0 lo) := by simpa using hc
  exact h c (by simpa using List.mem_of_mem_drop (List.mem_of_mem_take hc))
theorem len_cut {x : Str} (lo hi : Option Int) : (cutS x lo hi).length ≤ x.length := by
  show (List.toArray _).size ≤ x.cps.size
  rw [List.size_toArray, List.length_take, List.length_drop, Array.length_toList]
  omega
/-- a sign of a text -/
theorem sign_run {M : Mem} {z : Str} {k : Int} (hz : PyData.strOk z = true) (hl : z.length ≤ 16777216) (h0 : 0 ≤ k) (h1 : k < z.length) : ∃ y, idxD M (.str z) (.int k) = some (.str y) ∧ PyData.strOk y = true ∧ y.length = 1 := by
  obtain ⟨c, e, _⟩ := atI_mem (xs := z.cps.toList) h0 (by rw [Array.length_toList]; exact h1)
  refine ⟨⟨#[c]⟩, ?_, ok_at hz e, rfl⟩
  show (if z.length ≤ sizeLine then (atI z.cps.toList k).map fun c => D.str ⟨#[c]⟩ else none) = _
  rw [if_pos (by rw [sizeLine_eq]; exact hl), e]
  rfl
theorem text_run {n : Nat} {M : Mem} {a B : Nat} {Q : D × Mem → Prop} (hf : Feed M a B) (hB : B ≤ 900000000) (w : ∀ x M', PyData.strOk x = true → x.length ≤ 21 → Feed M' a (B + 16) → Gr a M M' → Q (.str x, M')) : Run (callF g (n + 2) 6 [.ref a] M) Q := by
  refine run_call [.ref a] (F := f6) rfl rfl ?_
  show Run (evSs _ _ _ [some (.ref a), none, none, none, none, none] M) _
  refine run_cons ?_
  simp only [evSs, evS, ev, evs, evV, evT, evTs, evp, evI, evO, evG, run_ok, run_bind, run_when, run_of, Lit.d]
  simp only [List.set_cons_succ, List.set_cons_zero]
  have os : PyData.strOk (Str.ofString " !\"#$&'()*+,-./0123456789:;<=>?@ABCDEFGHIJKLMNOPQRSTUVWXYZ[\\]^_`abcdefghijklmnopqrstuvwxyz{|}~") = true := ok_text _
  have ls : (Str.ofString " !\"#$&'()*+,-./0123456789:;<=>?@ABCDEFGHIJKLMNOPQRSTUVWXYZ[\\]^_`abcdefghijklmnopqrstuvwxyz{|}~").length = 94 := by decide +kernel
  generalize Str.ofString " !\"#$&'()*+,-./0123456789:;<=>?@ABCDEFGHIJKLMNOPQRSTUVWXYZ[\\]^_`abcdefghijklmnopqrstuvwxyz{|}~" = signs at os ls ⊢
  refine run_cons ?_
  simp [evSs, evS, ev, evs, evV, evT, evTs, evp, evI, evO, evG, run_ok, run_bind, run_when, run_of, Lit.d, newM, sizeLine_eq]
  refine draw_run (hf.gw gwA) (by omega) (by decide) (by decide) fun r1 M1 b0 b1 hf1 g1 => ?_
  simp
  have gg : Gr a M M1 := gwA.gr.trans g1
  have hlt : a < M.length := by obtain ⟨_, _, _, _, _, e, _⟩ := hf; exact (List.getElem?_eq_some_iff.mp e).1
  have hM : M1[M.length]? = some (.lst [.str (Str.ofString "abcdefghijklmnopqrstuvwxyz"), .str signs]) := g1 _ _ (by omega) at0
  have ol : PyData.strOk (Str.ofString "abcdefghijklmnopqrstuvwxyz") = true := ok_text _
  have ll : (Str.ofString "abcdefghijklmnopqrstuvwxyz").length = 26 := by decide +kernel
  obtain ⟨x, ex, z, rfl, z1, z2, z3⟩ := pick (P := fun x => ∃ z, x = .str z ∧ PyData.strOk z = true ∧ 0 < z.length ∧ z.length ≤ 94) (L := [.str (Str.ofString "abcdefghijklmnopqrstuvwxyz"), .str signs]) b0 (by show r1 < 2; exact b1)
    (all_cons ⟨_, rfl, ol, by omega, by omega⟩ (all_cons ⟨_, rfl, os, by omega, by omega⟩ all_nil))
  refine ⟨.str z, by show (match M1[M.length]? with | some (MO.lst xs) => atI xs r1 | some (.dct kvs) => _ | none => none) = _; rw [hM]; exact ex, ?_⟩
  clear ex hM
  refine run_cons ?_
  simp [evSs, evS, ev, evs, evV, evT, evTs, evp, evI, evO, evG, run_ok, run_bind, run_when, run_of, Lit.d, tyM, Me.ofS]
  refine draw_run hf1 (by omega) (by decide) (by decide) fun r2 M2 c0 c1 hf2 g2 => ?_
  have rg : rngOk 0 r2 = true := by unfold rngOk; simp; omega
  simp [rg]
  have lr : (rngD 0 r2).length ≤ 10 := by unfold rngD; rw [List.length_map, List.length_range]; omega
  have hzl : lenD M2 (.str z) = some z.length := by show (if z.length ≤ sizeLine then some z.length else none) = _; rw [if_pos (by rw [sizeLine_eq]; omega)]
  have hlen : ∀ M', lenD M' (.str z) = some z.length := fun M' => by show (if z.length ≤ sizeLine then some z.length else none) = _; rw [if_pos (by rw [sizeLine_eq]; omega)]
  refine run_comp (xs := rngD 0 r2) (fun i M' acc => Feed M' a (B + 2 + i) ∧ Gr a M2 M' ∧ ∃ ys : List Str, acc = ys.map D.str ∧ ∀ y ∈ ys, PyData.strOk y = true ∧ y.length = 1) (by omega) ⟨hf2, .refl, [], rfl, fun _ h => by cases h⟩ (fun i x M' acc e hi ⟨f1, f2, ys, f3, f4⟩ => ?_) fun M' acc hl ⟨f1, f2, ys, f3, f4⟩ => ?_
  · have hi10 : i < 10 := Nat.lt_of_lt_of_le (List.getElem?_eq_some_iff.mp e).1 lr
    simp [wipeE, biD, hlen]
    refine draw_run f1 (by omega) (by omega) (by omega) fun r3 M3 d0 d1 hf3 g3 => ?_
    obtain ⟨y, y1, y2, y3⟩ := sign_run (M := M3) z1 (by omega) d0 d1
    simp
    refine ⟨_, y1, hf3.mono (by omega), f2.trans g3, ys ++ [y], by rw [f3, List.map_append]; rfl, fun q hq => ?_⟩
    rcases List.mem_append.mp hq with hq | hq
    · exact f4 q hq
    · rw [List.mem_singleton.mp hq]; exact ⟨y2, y3⟩
  · subst f3
    rw [List.length_map] at hl
    have sl := sum_ones fun y hy => (f4 y hy).2
    have jl : (Txt.join (Str.ofString "") ys).length ≤ 10 := by rw [len_join0, sl]; omega
    have jo : PyData.strOk (Txt.join (Str.ofString "") ys) = true := ok_join (by decide +kernel) fun y hy => (f4 y hy).1
    have e0 : (Str.ofString "").length = 0 := by decide +kernel
    simp [newM, meD, joinD, itemsD, at_new, strsD_map, sl, e0]
    generalize Txt.join (Str.ofString "") ys = tx at jl jo
    refine ⟨by omega, ?_⟩
    have hf4 : Feed (M' ++ [MO.lst (ys.map D.str)]) a (B + 12) := (f1.mono (by omega)).gw gwA
    have g4 : Gr a M (M' ++ [MO.lst (ys.map D.str)]) := (gg.trans (g2.trans f2)).trans gwA.gr
    generalize M' ++ [MO.lst (ys.map D.str)] = M4 at hf4 g4 ⊢
    have hlx : ∀ M', lenD M' (.str tx) = some tx.length := fun M' => by show (if tx.length ≤ sizeLine then some tx.length else none) = _; rw [if_pos (by rw [sizeLine_eq]; omega)]
    refine run_cons ?_
    simp [evSs, evS, ev, evs, evV, evT, evTs, evp, evI, evO, evG, run_ok, run_bind, run_when, run_of, Lit.d]
    refine draw_run hf4 (by omega) (by decide) (by decide) fun r5 M5 k0 k1 hf5 g5 => ?_
    by_cases h5 : r5 = 0
    · subst h5
      simp [cmpD, eq_int, truth, biD, hlx, binD]
      refine draw_run hf5 (by omega) (by omega) (by omega) fun r6 M6 p0 p1 hf6 g6 => ?_
      simp
      refine run_cons ?_
      simp [evSs, evS, ev, evs, evV, evT, evTs, evp, evI, evO, evG, run_ok, run_bind, run_when, run_of, Lit.d, slcD, sizeLine_eq]
      refine ⟨by omega, draw_run hf6 (by omega) (by decide) (by decide) fun r7 M7 q0 q1 hf7 g7 => ?_⟩
      obtain ⟨y, y1, y2, y3⟩ := sign_run (M := M7) os (by omega) q0 (by omega)
      simp
      refine ⟨_, y1, ?_⟩
      have lc := len_cut (x := tx) none (some r6)
      simp [binD, sizeLine_eq]
      refine ⟨by omega, draw_run hf7 (by omega) (by decide) (by decide) fun r8 M8 t0 t1 hf8 g8 => ?_⟩
      have lc2 := len_cut (x := tx) (some (r6 + r8)) none
      simp [slcD, sizeLine_eq]
      have la : (cutS tx none (some r6) ++ y).length = (cutS tx none (some r6)).length + y.length := Str.length_append _ _
      refine ⟨by omega, by omega, ?_⟩
      refine run_cons ?_
      simp [evSs, evS, ev, evs, evV, evT, evTs, evp, evI, evO, evG, run_ok, run_bind, run_when, run_of]
      refine w _ _ (ok_app (ok_app (ok_cut jo _ _) y2) (ok_cut jo _ _)) (by rw [Str.length_append, la]; omega) (hf8.mono (by omega)) ((((g4.trans g5).trans g6).trans g7).trans g8)
    · simp [cmpD, eq_int, truth, h5]
      refine run_cons ?_
      simp [evSs, evS, ev, evs, evV, evT, evTs, evp, evI, evO, evG, run_ok, run_bind, run_when, run_of]
      exact w tx _ jo (by omega) (hf5.mono (by omega)) (g4.trans g5)
end Lw

namespace Lw
open PySem L2 Cp
theorem mul_log {i j : Int} (hi : i.natAbs.log2 < 400000) (hj : j.natAbs.log2 < 400000) : mulOk i j = true := by
  unfold mulOk
  exact decide_eq_true (by omega)
theorem log_lt {n k : Nat} (h : n < 2 ^ k) (hk : 0 < k) : n.log2 < k := by
  by_cases h0 : n = 0
  · subst h0; rw [Nat.log2_zero]; exact hk
  · exact (Nat.log2_lt h0).mpr h
theorem big700 : 60 * 10 ^ 192 < 2 ^ 700 := by decide +kernel
theorem log_big {x : Int} {i : Nat} (h0 : 0 ≤ x) (h1 : x < 60 * 10 ^ (6 * i)) (hi : i ≤ 32) : x.natAbs.log2 < 700 := by
  refine log_lt ?_ (by decide)
  have h2 : (10 : Nat) ^ (6 * i) ≤ 10 ^ 192 := Nat.pow_le_pow_right (by decide) (by omega)
  have h3 : x.natAbs < 60 * 10 ^ (6 * i) := by
    have e : ((60 * 10 ^ (6 * i) : Nat) : Int) = 60 * 10 ^ (6 * i) := by rw [Int.natCast_mul, Int.natCast_pow]; rfl
    omega
  have := big700
  omega
theorem pow6 : powOk 10 6 = true := by decide +kernel
theorem Gr.lt {M : Mem} {a B : Nat} (hf : Feed M a B) : a < M.length := by obtain ⟨_, _, _, _, _, e, _⟩ := hf; exact (List.getElem?_eq_some_iff.mp e).1
theorem idx_ref {M : Mem} {i : Nat} {xs : List D} {k : Int} {x : D} (h : M[i]? = some (.lst xs)) (e : atI xs k = some x) : idxD M (.ref i) (.int k) = some x := by
  show (match M[i]? with | some (MO.lst xs) => atI xs k | some (.dct kvs) => _ | none => none) = _
  rw [h]; exact e
theorem thing_run {S : Nat → Bool} {n : Nat} {M : Mem} {a B : Nat} {Q : D × Mem → Prop} (hf : Feed M a B) (hB : B ≤ 800000000) (hS : ∀ i, M.length ≤ i → S i = false)
    (w : ∀ d' M', Dat (vw S M') d' 1000 2 700 → Feed M' a (B + 40) → Gr a M M' → Q (d', M')) : Run (callF g (n + 3) 7 [.ref a] M) Q := by
  refine run_call [.ref a] (F := f7) rfl rfl ?_
  show Run (evSs _ _ _ [some (.ref a), none, none, none, none] M) _
  refine run_cons ?_
  simp [evSs, evS, ev, evs, evV, evT, evTs, evp, evI, evO, evG, run_ok, run_bind, run_when, run_of, Lit.d]
  refine draw_run hf (by omega) (by decide) (by decide) fun r1 M1 b0 b1 hf1 g1 => ?_
  simp
  refine run_cons ?_
  by_cases h1 : r1 < 2
  · simp [evSs, evS, ev, evs, evV, evT, evTs, evp, evI, evO, evG, run_ok, run_bind, run_when, run_of, Lit.d, cmpD, truth, h1]
    refine text_run (n := n) hf1 (by omega) fun x M2 x1 x2 hf2 g2 => ?_
    simp
    exact w _ _ (Dat.of_str x1 (by omega)) (hf2.mono (by omega)) (g1.trans g2)
  · simp [evSs, evS, ev, evs, evV, evT, evTs, evp, evI, evO, evG, run_ok, run_bind, run_when, run_of, Lit.d, cmpD, truth, h1]
    refine run_cons ?_
    by_cases h2 : r1 = 2
    · subst h2
      simp [evSs, evS, ev, evs, evV, evT, evTs, evp, evI, evO, evG, run_ok, run_bind, run_when, run_of, Lit.d, cmpD, truth, eq_int]
      refine draw_run hf1 (by omega) (by decide) (by decide) fun x0 M2 c0 c1 hf2 g2 => ?_
      simp
      refine run_cons ?_
      have loop : ∀ (k : Int) (M3 : Mem) (B3 : Nat) (Q' : Fl × Ev × Mem → Prop), 0 ≤ k → k ≤ 32 → Feed M3 a B3 → B3 ≤ 900000000 → Gr a M M3 →
          (∀ v x M', 0 ≤ x → x.natAbs.log2 < 700 → Feed M' a (B3 + 32) → Gr a M M' → Q' (.nx, [some (.ref a), some (.int 2), some (.int x), v, none], M')) →
          Run (forX (.its (rngD 0 k)) (fun d s M => .ok (s.set 3 (some d), M)) (fun s M => evSs g (callF g (n + 2)) (.cons (.asg (.nm 2) (.bin .add (.bin .mul (.var 2) (.bin .pow (.lit (.int 10)) (.lit (.int 6)))) (.call 4 (.cons (.var 0) (.cons (.bin .pow (.lit (.int 10)) (.lit (.int 6))) .nil))))) .nil) s M) wf 0
            [some (.ref a), some (.int 2), some (.int x0), none, none] M3) Q' := by
        intro k M3 B3 Q' k0 k1 hf3 hB3 g3 q
        have lr : (rngD 0 k).length ≤ 32 := by unfold rngD; rw [List.length_map, List.length_range]; omega
        refine run_for (fun i s M' => ∃ v x, s = [some (.ref a), some (.int 2), some (.int x), v, none] ∧ 0 ≤ x ∧ x < 60 * 10 ^ (6 * i) ∧ Feed M' a (B3 + i) ∧ Gr a M M') (by omega) ⟨none, x0, rfl, c0, by simpa using c1, hf3, g3⟩ (fun i d s M' e ⟨v, x, e1, e2, e3, e4, e5⟩ => ?_) fun s M' ⟨v, x, e1, e2, e3, e4, e5⟩ => ?_
        · have hi := (List.getElem?_eq_some_iff.mp e).1
          subst e1
          have lx := log_big e2 e3 (by omega)
          have l6 : ((10 : Int) ^ 6).natAbs.log2 < 400000 := by decide +kernel
          have mk : mulOk x 1000000 = true := mul_log (by omega) (by decide +kernel)
          simp [evSs, evS, ev, evs, evV, evT, evTs, evp, evI, evO, evG, run_ok, run_bind, run_when, run_of, Lit.d, binD, pow6, mk]
          refine draw_run e4 (by omega) (by decide) (by decide) fun r M4 t0 t1 hf4 g4 => ?_
          simp [binD]
          refine ⟨some d, _, ⟨rfl, rfl⟩, by omega, ?_, hf4, e5.trans g4⟩
          have ep : (10 : Int) ^ (6 * (i + 1)) = 10 ^ (6 * i) * 1000000 := by rw [Nat.mul_succ, Int.pow_add]; rfl
          rw [ep]
          generalize (10 : Int) ^ (6 * i) = T at e3 ⊢
          omega
        · subst e1
          exact q v x M' e2 (log_big e2 e3 lr) (e4.mono (by omega)) e5
      -- the sign
      have after : ∀ (v : Option D) (x : Int) (M' : Mem), 0 ≤ x → x.natAbs.log2 < 700 → Feed M' a (B + 36) → Gr a M M' → Run (evSs g (callF g (n + 2)) f7_1 [some (.ref a), some (.int 2), some (.int x), v, none] M') fun q => match q.1 with | .rt d => Q (d, q.2.2) | _ => False := by
        intro v x M' x0 xl hf3 g3
        refine run_cons ?_
        simp [evSs, evS, ev, evs, evV, evT, evTs, evp, evI, evO, evG, run_ok, run_bind, run_when, run_of, Lit.d, newM, sizeLine_eq]
        refine draw_run (hf3.gw gwA) (by omega) (by decide) (by decide) fun r M4 t0 t1 hf4 g4 => ?_
        have hM : M4[M'.length]? = some (.lst [.int 1, .int (-1)]) := g4 _ _ (by have := Gr.lt hf3; omega) at0
        obtain ⟨y, ey, j, rfl, hj⟩ := pick (P := fun y => ∃ j, y = .int j ∧ (j = 1 ∨ j = -1)) (L := [.int 1, .int (-1)]) t0 (by show r < 2; exact t1) (all_cons ⟨1, rfl, .inl rfl⟩ (all_cons ⟨-1, rfl, .inr rfl⟩ all_nil))
        simp
        refine ⟨_, idx_ref hM ey, ?_⟩
        have jl : j.natAbs.log2 < 400000 := by rcases hj with rfl | rfl <;> decide +kernel
        have mk : mulOk x j = true := mul_log (by omega) jl
        have nl : (x * j).natAbs = x.natAbs := by rcases hj with rfl | rfl <;> omega
        simp [binD, mk]
        exact w _ _ (Dat.of_int (by rw [nl]; exact xl) (by rw [nl]; omega)) (hf4.mono (by omega)) ((g3.trans gwA.gr).trans g4)
      simp [evSs, evS, ev, evs, evV, evT, evTs, evp, evI, evO, evG, run_ok, run_bind, run_when, run_of, Lit.d]
      refine draw_run hf2 (by omega) (by decide) (by decide) fun r3 M3 d0 d1 hf3 g3 => ?_
      by_cases h3 : r3 = 0
      · subst h3
        simp [cmpD, truth, eq_int]
        refine draw_run hf3 (by omega) (by decide) (by decide) fun r4 M4 p0 p1 hf4 g4 => ?_
        have rg : rngOk 0 r4 = true := by unfold rngOk; simp; omega
        simp [rg]
        refine loop r4 M4 _ _ p0 (by omega) hf4 (by omega) (((g1.trans g2).trans g3).trans g4) fun v x M' x0 xl hf5 g5 => ?_
        refine (after v x M' x0 xl (hf5.mono (by omega)) g5).mono fun q hq => ?_
        obtain ⟨fl, s', M''⟩ := q
        cases fl <;> first | exact hq | exact hq.elim
      · have rg : rngOk 0 0 = true := by decide
        simp [cmpD, truth, eq_int, h3, rg]
        refine loop 0 M3 _ _ (by decide) (by decide) hf3 (by omega) ((g1.trans g2).trans g3) fun v x M' x0 xl hf5 g5 => ?_
        refine (after v x M' x0 xl (hf5.mono (by omega)) g5).mono fun q hq => ?_
        obtain ⟨fl, s', M''⟩ := q
        cases fl <;> first | exact hq | exact hq.elim
    · have h2' : (r1 == 2) = false := beq_eq_false_iff_ne.mpr h2
      simp [evSs, evS, ev, evs, evV, evT, evTs, evp, evI, evO, evG, run_ok, run_bind, run_when, run_of, Lit.d, cmpD, truth, eq_int, h2']
      refine run_cons ?_
      simp [evSs, evS, ev, evs, evV, evT, evTs, evp, evI, evO, evG, run_ok, run_bind, run_when, run_of, Lit.d, newM, sizeLine_eq]
      refine run_cons ?_
      simp [evSs, evS, ev, evs, evV, evT, evTs, evp, evI, evO, evG, run_ok, run_bind, run_when, run_of, Lit.d]
      refine draw_run (hf1.gw gwA) (by omega) (by decide) (by decide) fun r M4 t0 t1 hf4 g4 => ?_
      have la := Gr.lt hf1
      have lM := Gr.len g1 hf1
      have m0 := g4 M1.length _ (by omega) at0
      have m1 := g4 (M1.length + 1) _ (by omega) at1
      have m2 := g4 (M1.length + 2) _ (by omega) at2
      have v0 : (vw S M4)[M1.length]? = some (.lst []) := vw_lst.mpr ⟨hS _ lM, m0⟩
      have v1 : (vw S M4)[M1.length + 1]? = some (.lst [.int 0]) := vw_lst.mpr ⟨hS _ (by omega), m1⟩
      have i0 : ∀ {c h : Nat}, 2 ≤ c → Dat (vw S M4) (.int 0) c h 700 := fun h => c_int (by decide +kernel) h (by decide)
      refine Exists.elim (pick (P := fun x => Dat (vw S M4) x 1000 2 700) t0 ?_ ?_) fun x hx => ⟨x, idx_ref m2 hx.1, w x _ hx.2 (hf4.mono (by omega)) ((g1.trans gwA.gr).trans g4)⟩
      · show r < 15; exact t1
      · intro x hx
        simp only [List.mem_cons, List.not_mem_nil, or_false] at hx
        rcases hx with rfl | rfl | rfl | rfl | rfl | rfl | rfl | rfl | rfl | rfl | rfl | rfl | rfl | rfl | rfl
        · exact Dat.of_bl (by omega)
        · exact Dat.of_bl (by omega)
        · exact Dat.of_non (by omega)
        · exact c_str (k := 0) (by decide +kernel) (by omega)
        · exact c_str (k := 1) (by decide +kernel) (by omega)
        · exact c_str (k := 8) (by decide +kernel) (by omega)
        · exact c_str (k := 9) (by decide +kernel) (by omega)
        · exact Dat.of_tup (DatL.nil (lb := 700)) (by omega) (by omega)
        · exact Dat.of_lst v0 (DatL.nil (lb := 700)) (by omega) (by omega)
        · exact Dat.of_tup (DatL.one (i0 (c := 2) (h := 0) (by omega))) (by omega) (by omega)
        · exact Dat.of_tup (DatL.one (Dat.bl (lb := 700) true)) (by omega) (by omega)
        · exact c_str (k := 1) (by decide +kernel) (by omega)
        · exact c_str (k := 3) (by decide +kernel) (by omega)
        · exact Dat.of_lst v1 (DatL.one (i0 (c := 2) (h := 0) (by omega))) (by omega) (by omega)
        · exact Dat.of_tup (DatL.one (Dat.of_tup (c := 10) (h := 1) (DatL.one (i0 (c := 2) (h := 0) (by omega))) (by omega) (by omega))) (by omega) (by omega)
end Lw

namespace Lw
open PySem L2 Cp
theorem Feed.set {M : Mem} {a B s : Nat} {o : MO} (h : Feed M a B) (hs : a < s) : Feed (M.set s o) a B := by
  obtain ⟨c, l, p, q, r, h1, h2, h3, h4⟩ := h
  exact ⟨c, l, p, q, r, by rw [List.getElem?_set_ne (by omega)]; exact h1, h2, by rw [List.getElem?_set_ne (by omega)]; exact h3, h4⟩
theorem Gr.setN {M M' : Mem} {a s : Nat} {o : MO} (h : Gr a M M') (hs : M.length ≤ s) : Gr a M (M'.set s o) := fun i u ne e => by
  have := (List.getElem?_eq_some_iff.mp e).1
  rw [List.getElem?_set_ne (by omega)]
  exact h i u ne e
/-- the numbers of some cells -/
theorem loop_cells {n : Nat} {M0 M : Mem} {a B s : Nat} {k : Int} {Q : Fl × Ev × Mem → Prop} (h0 : M0.length ≤ s) (h1 : a < s) (hf : Feed M a B) (hB : B ≤ 900000000) (hM : M[s]? = some (.lst [])) (g0 : Gr a M0 M) (k1 : k ≤ 8)
    (w : ∀ (v : Option D) (l : List Int) (M' : Mem), l.length = k.toNat → (∀ x ∈ l, x.natAbs.log2 < 250) → M'[s]? = some (.lst (l.map D.int)) → Feed M' a (B + 24) → Gr a M0 M' → Q (.nx, [some (.ref a), some (.ref s), v, none, none, none, none], M')) :
    Run (forX (.its (rngD 0 k)) (fun d s M => .ok (s.set 2 (some d), M)) (fun s M => evSs g (callF g (n + 1)) (.cons (.expr (.meth .append (.var 1) (.cons (.idx (.lst (.cons (.bin .sub (.call 4 (.cons (.var 0) (.cons (.lit (.int 9)) .nil))) (.lit (.int 4))) (.cons (.bin .sub (.call 4 (.cons (.var 0) (.cons (.lit (.int 2000)) .nil))) (.lit (.int 999))) (.cons (.bin .sub (.bin .pow (.lit (.int 10)) (.lit (.int 60))) (.var 2)) .nil)))) (.call 4 (.cons (.var 0) (.cons (.lit (.int 3)) .nil)))) .nil))) .nil) s M) wf 0
      [some (.ref a), some (.ref s), none, none, none, none, none] M) Q := by
  have lr : (rngD 0 k).length = k.toNat := by unfold rngD; rw [List.length_map, List.length_range]; rw [Int.sub_zero]
  refine run_for (fun i st M' => ∃ (v : Option D) (l : List Int), st = [some (.ref a), some (.ref s), v, none, none, none, none] ∧ l.length = i ∧ (∀ x ∈ l, x.natAbs.log2 < 250) ∧ M'[s]? = some (.lst (l.map D.int)) ∧ Feed M' a (B + 3 * i) ∧ Gr a M0 M') (by omega)
    ⟨none, [], rfl, rfl, (fun _ h => by cases h), hM, hf, g0⟩ (fun i d st M' e ⟨v, l, e1, e2, e3, e4, e5, e6⟩ => ?_) fun st M' ⟨v, l, e1, e2, e3, e4, e5, e6⟩ => ?_
  · have hi := (List.getElem?_eq_some_iff.mp e).1
    obtain ⟨j, rfl, j0, j1⟩ : ∃ j : Int, d = .int j ∧ 0 ≤ j ∧ j < 8 := by
      unfold rngD at e
      rw [List.getElem?_map] at e
      obtain ⟨t, ht, rfl⟩ := Option.map_eq_some_iff.mp e
      obtain ⟨t1, t2⟩ := List.getElem?_eq_some_iff.mp ht
      rw [List.length_range] at t1
      rw [List.getElem_range] at t2
      exact ⟨0 + (t : Nat), rfl, by omega, by omega⟩
    subst e1
    simp [evSs, evS, ev, evs, evV, evT, evTs, evp, evI, evO, evG, run_ok, run_bind, run_when, run_of, Lit.d, tyM, Me.ofL, e4]
    refine draw_run e5 (by omega) (by decide) (by decide) fun r1 M1 a0 a1 hf1 g1 => ?_
    simp [binD]
    refine draw_run hf1 (by omega) (by decide) (by decide) fun r2 M2 b0 b1 hf2 g2 => ?_
    simp [binD, pow60, newM, sizeLine_eq]
    refine draw_run (hf2.gw gwA) (by omega) (by decide) (by decide) fun r3 M3 c0 c1 hf3 g3 => ?_
    have la := Gr.lt hf2
    have m0 := g3 M2.length _ (by omega) at0
    have m1 : M3[s]? = some (.lst (l.map D.int)) := g3 _ _ (by omega) (gwA _ _ (g2 _ _ (by omega) (g1 _ _ (by omega) e4)))
    have big : ((1000000000000000000000000000000000000000000000000000000000000 : Int) - j).natAbs.log2 < 250 := by
      refine log_lt ?_ (by decide)
      omega
    have small : ∀ x : Int, -1000 ≤ x → x ≤ 2000 → x.natAbs.log2 < 250 := fun x h1 h2 => log_lt (by omega) (by decide)
    obtain ⟨y, ey, y1, rfl, y2⟩ := pick (P := fun y => ∃ x : Int, y = .int x ∧ x.natAbs.log2 < 250) (L := [.int (r1 - 4), .int (r2 - 999), .int (1000000000000000000000000000000000000000000000000000000000000 - j)]) c0 (by show r3 < 3; exact c1)
      (all_cons ⟨_, rfl, small _ (by omega) (by omega)⟩ (all_cons ⟨_, rfl, small _ (by omega) (by omega)⟩ (all_cons ⟨_, rfl, big⟩ all_nil)))
    refine ⟨_, idx_ref m0 ey, ?_⟩
    simp [meD, appendD, m1, sizeLine_eq]
    refine ⟨by omega, l ++ [y1], by rw [List.length_append, e2]; rfl, (fun x hx => ?_), ?_, (hf3.mono (by omega)).set h1, Gr.setN ((((e6.trans g1).trans g2).trans gwA.gr).trans g3) h0⟩
    · rcases List.mem_append.mp hx with hx | hx
      · exact e3 x hx
      · rw [List.mem_singleton.mp hx]; exact y2
    · rw [List.getElem?_set_self (List.getElem?_eq_some_iff.mp m1).1, List.map_append]; rfl
  · subst e1
    rw [lr] at e2 e5
    exact w v l M' e2 e3 e4 (e5.mono (by omega)) e6
def hide (S : Nat → Bool) (f : Nat) : Nat → Bool := fun i => S i || i == f
theorem vw_set {S : Nat → Bool} {M : Mem} {f : Nat} {o : MO} : Gl (vw (hide S f) M) (vw (hide S f) (M.set f o)) := vw_gl fun i xs hi e => by
  have : i ≠ f := fun z => by subst z; simp [hide] at hi
  rw [List.getElem?_set_ne (Ne.symm this)]
  exact e
theorem hide_new {S : Nat → Bool} {M : Mem} {f : Nat} (hS : ∀ i, M.length ≤ i → S i = false) (hf : f < M.length) : ∀ i, M.length ≤ i → hide S f i = false := fun i hi => by
  unfold hide
  rw [hS i hi, Bool.false_or]
  exact beq_eq_false_iff_ne.mpr (by omega)
/-- a made list, out of sight -/
theorem vw_made {S : Nat → Bool} {M : Mem} {o : MO} : Gl (vw S M) (vw (hide S M.length) (M ++ [o])) := fun i xs e => by
  rw [vw_lst] at e ⊢
  have hi := (List.getElem?_eq_some_iff.mp e.2).1
  refine ⟨?_, gwA _ _ e.2⟩
  unfold hide
  rw [e.1, Bool.false_or]
  exact beq_eq_false_iff_ne.mpr (by omega)
theorem vw_seen {S : Nat → Bool} {M : Mem} {f : Nat} : Gl (vw (hide S f) M) (vw S M) := vw_less fun i h => by unfold hide; rw [h]; rfl
/-- things put among the cells -/
theorem loop_found {S : Nat → Bool} {n : Nat} {M0 M : Mem} {a B f s : Nat} {v : Option D} {xs LL T : List D} {k : Nat} {Q : Fl × Ev × Mem → Prop} (h0 : M0.length ≤ f) (h1 : a < f) (hf : Feed M a B) (hM : M[f]? = some (.lst LL)) (hL : LL.length = 6) (g0 : Gr a M0 M) (hk : k < xs.length) (hx : xs.length ≤ 8)
    (dl : ∀ V : Mem, DatL V xs 2024 0 400) (L8 : DatL (vw (hide S f) M) LL 240000 5 400) (allT : ∀ x ∈ T, Dat (vw (hide S f) M) x 500 1 400) (lT : T.length = 6)
    (w : ∀ v' L M', M'[f]? = some (.lst L) → L.length = 12 → DatL (vw (hide S f) M') L 400000 5 400 → Feed M' a B → Gr a M0 M' → Q (.nx, [some (.ref a), some (.ref s), v, some (.tup xs), some (.ref f), some (.int (k : Int)), v'], M')) :
    Run (forX (.its T) (evG g (callF g (n + 5)) (.nm 6)) (fun s M => evSs g (callF g (n + 5)) (.cons (.expr (.meth .append (.var 4) (.cons (.bin .add (.bin .add (.slc (.var 3) .no (.at (.var 5))) (.tup (.cons (.var 6) .nil))) (.slc (.var 3) (.at (.bin .add (.var 5) (.lit (.int 1)))) .no)) .nil))) .nil) s M) wf 0
      [some (.ref a), some (.ref s), v, some (.tup xs), some (.ref f), some (.int (k : Int)), none] M) Q := by
  refine run_for (fun i st M' => ∃ (v' : Option D) (L : List D), st = [some (.ref a), some (.ref s), v, some (.tup xs), some (.ref f), some (.int (k : Int)), v'] ∧ M'[f]? = some (.lst L) ∧ L.length = 6 + i ∧ DatL (vw (hide S f) M') L (240000 + 6000 * i) 5 400 ∧ (∀ x ∈ T, Dat (vw (hide S f) M') x 500 1 400) ∧ Feed M' a B ∧ Gr a M0 M') (by omega)
    ⟨none, LL, rfl, hM, hL, L8, allT, hf, g0⟩ (fun i d st M' e ⟨v', L, e1, e2, e3, e4, e5, e6, e7⟩ => ?_) fun st M' ⟨v', L, e1, e2, e3, e4, e5, e6, e7⟩ => ?_
  · have hi := (List.getElem?_eq_some_iff.mp e).1
    have hd := e5 d (List.mem_of_getElem? e)
    subst e1
    have ek := cut_lo (xs := xs) (Nat.le_of_lt hk)
    have ek2 : cutL xs (some ((k : Int) + 1)) none = xs.drop (k + 1) := cut_hi (i := k + 1) hk
    have lt : (xs.take k).length ≤ 8 := by rw [List.length_take]; omega
    have ld : (xs.drop (k + 1)).length ≤ 8 := by rw [List.length_drop]; omega
    have nd : Dat (vw (hide S f) M') (.tup (xs.take k ++ d :: xs.drop (k + 1))) 5000 2 400 := Dat.of_tup (((dl _).take k).append (DatL.cons hd ((dl _).drop (k + 1)))) (by omega) (by omega)
    simp [evSs, evS, ev, evs, evV, evT, evTs, evp, evI, evO, evG, run_ok, run_bind, run_when, run_of, Lit.d, tyM, Me.ofL, e2, slcD, ek, ek2, binD, sizeLine_eq, meD, appendD]
    simp only [List.length_take, List.length_drop] at lt ld
    refine ⟨by omega, by omega, by omega, _, List.getElem?_set_self (List.getElem?_eq_some_iff.mp e2).1, by rw [List.length_append, e3]; rfl, ?_, (fun x hx => (e5 x hx).gl vw_set), e6.set h1, Gr.setN e7 h0⟩
    exact ((e4.append (DatL.one nd)).gl vw_set).mono (by omega) (by omega)
  · subst e1
    rw [lT] at e3 e4
    exact w v' L M' e2 e3 (e4.mono (by omega) (Nat.le_refl _)) e6 e7
theorem near_run {S : Nat → Bool} {n : Nat} {M : Mem} {a B : Nat} {Q : D × Mem → Prop} (hf : Feed M a B) (hB : B ≤ 700000000) (hS : ∀ i, M.length ≤ i → S i = false)
    (w : ∀ f L M', M.length ≤ f → M'[f]? = some (.lst L) → L.length = 12 → DatL (vw S M') L 400000 5 400 → Feed M' a (B + 60) → Gr a M M' → Q (.ref f, M')) : Run (callF g (n + 6) 8 [.ref a] M) Q := by
  refine run_call [.ref a] (F := f8) rfl rfl ?_
  show Run (evSs _ _ _ [some (.ref a), none, none, none, none, none, none] M) _
  have la := Gr.lt hf
  refine run_cons ?_
  simp [evSs, evS, ev, evs, evV, evT, evTs, evp, evI, evO, evG, run_ok, run_bind, run_when, run_of, newM, sizeLine_eq]
  refine run_cons ?_
  simp [evSs, evS, ev, evs, evV, evT, evTs, evp, evI, evO, evG, run_ok, run_bind, run_when, run_of, Lit.d]
  refine draw_run (hf.gw gwA) (by omega) (by decide) (by decide) fun r1 M1 a0 a1 hf1 g1 => ?_
  have rg : rngOk 0 (1 + r1) = true := by unfold rngOk; simp; omega
  simp [binD, rg]
  have m1 : M1[M.length]? = some (.lst []) := g1 _ _ (by omega) at0
  refine loop_cells (M0 := M) (n := n + 4) (Nat.le_refl _) la hf1 (by omega) m1 (gwA.gr.trans g1) (by omega) fun v l M2 l1 l2 m2 hf2 g2 => ?_
  have l3 : 0 < l.length ∧ l.length ≤ 8 := by omega
  show Run (evSs g (callF g (n + 5)) f8_5 [some (.ref a), some (.ref M.length), v, none, none, none, none] M2) _
  refine run_cons ?_
  simp [evSs, evS, ev, evs, evV, evT, evTs, evp, evI, evO, evG, run_ok, run_bind, run_when, run_of, biD, itemsD, m2]
  have ll : ((l.map D.int).length) = l.length := List.length_map ..
  have dl : ∀ V : Mem, DatL V (l.map D.int) 2024 0 250 := fun V => (DatL.all (c := 251) (h := 0) (lb := 250) fun x hx => by
    obtain ⟨i, hi, rfl⟩ := List.mem_map.mp hx
    exact Dat.of_int (l2 i hi) (by have := l2 i hi; omega)).mono (by rw [ll]; omega) (Nat.le_refl _)
  generalize l.map D.int = xs at dl ll m2 ⊢
  refine run_cons ?_
  have dc : ∀ V : Mem, Dat V (.tup xs) 2027 1 250 := fun V => Dat.of_tup (dl V) (by omega) (by omega)
  have hS2 : ∀ i, M2.length ≤ i → S i = false := fun i hi => hS i (Nat.le_trans (Gr.len g2 hf2) hi)
  have lx : xs.length + xs.length ≤ 16777216 := by omega
  simp [evSs, evS, ev, evs, evV, evT, evTs, evp, evI, evO, evG, run_ok, run_bind, run_when, run_of, binD, sizeLine_eq, lx]
  refine bent_run (S := S) 1 (n + 2) hf2 (by omega) (dc _) (by decide) (by decide) (by decide) (by decide) hS2 fun d1 M3 p1 hf3 g3 => ?_
  have hS3 : ∀ i, M3.length ≤ i → S i = false := fun i hi => hS2 i (Nat.le_trans (Gr.len g3 hf3) hi)
  refine bent_run (S := S) 1 (n + 2) hf3 (by omega) (dc _) (by decide) (by decide) (by decide) (by decide) hS3 fun d2 M4 p2 hf4 g4 => ?_
  have hS4 : ∀ i, M4.length ≤ i → S i = false := fun i hi => hS3 i (Nat.le_trans (Gr.len g4 hf4) hi)
  refine bent_run (S := S) 2 (n + 1) hf4 (by omega) p2 (by decide) (by decide) (by decide) (by decide) hS4 fun d3 M5 p3 hf5 g5 => ?_
  have hS5 : ∀ i, M5.length ≤ i → S i = false := fun i hi => hS4 i (Nat.le_trans (Gr.len g5 hf5) hi)
  have g25 : Gr a M2 M5 := (g3.trans g4).trans g5
  have m5 : M5[M.length]? = some (.lst xs) := g25 _ _ (by omega) m2
  have q1 : Dat (vw S M5) d1 20570 3 400 := ((p1.gl (Gl.vw ((g4.trans g5).gl hf3.no))).mono (by omega) (by omega)).low (by decide)
  have q3 : Dat (vw S M5) d3 206000 3 400 := (p3.mono (by omega) (by omega)).low (by decide)
  have dl4 : ∀ V : Mem, DatL V xs 2024 0 400 := fun V => (dl V).low (by decide)
  have L0 : DatL (vw S M5) [.tup xs, .ref M.length, .tup (xs ++ xs), .tup [.tup xs], d1, d3] 240000 5 400 :=
    (DatL.cons (Dat.tup (dl4 _)) (DatL.cons (Dat.lst (vw_lst.mpr ⟨hS _ (Nat.le_refl _), m5⟩) (dl4 _)) (DatL.cons (Dat.tup ((dl4 _).append (dl4 _))) (DatL.cons (Dat.tup (DatL.one (Dat.tup (dl4 _)))) (DatL.cons q1 (DatL.one q3)))))).mono (by omega) (by omega)
  have L0 := L0.gl (vw_made (o := MO.lst [.tup xs, .ref M.length, .tup (xs ++ xs), .tup [.tup xs], d1, d3]))
  have lM5 : M.length ≤ M5.length := Gr.len (g2.trans g25) hf5
  have hSf := hide_new (S := S) (M := M5 ++ [MO.lst [.tup xs, .ref M.length, .tup (xs ++ xs), .tup [.tup xs], d1, d3]]) (f := M5.length) (fun i hi => hS5 i (by rw [List.length_append] at hi; omega)) (by rw [List.length_append]; exact Nat.lt_succ_self _)
  have hM6 := at0 (M := M5) (x := MO.lst [.tup xs, .ref M.length, .tup (xs ++ xs), .tup [.tup xs], d1, d3]) (L := [])
  have hf6 : Feed (M5 ++ [MO.lst [.tup xs, .ref M.length, .tup (xs ++ xs), .tup [.tup xs], d1, d3]]) a (B + 50) := (hf5.mono (by omega)).gw gwA
  have g6 : Gr a M (M5 ++ [MO.lst [.tup xs, .ref M.length, .tup (xs ++ xs), .tup [.tup xs], d1, d3]]) := (g2.trans g25).trans gwA.gr
  simp [newM]
  generalize (M5 ++ [MO.lst [.tup xs, .ref M.length, .tup (xs ++ xs), .tup [.tup xs], d1, d3]]) = M6 at L0 hSf hM6 hf6 g6 ⊢
  generalize hL : ([.tup xs, .ref M.length, .tup (xs ++ xs), .tup [.tup xs], d1, d3] : List D) = LL at L0 hM6
  have hLL : LL.length = 6 := by rw [← hL]; rfl
  clear hL
  generalize M5.length = f at lM5 hM6 L0 hSf ⊢
  refine run_cons ?_
  simp [evSs, evS, ev, evs, evV, evT, evTs, evp, evI, evO, evG, run_ok, run_bind, run_when, run_of, biD, lenD]
  refine draw_run hf6 (by omega) (by omega) (by omega) fun k M7 k0 k1 hf7 g7 => ?_
  obtain ⟨k, rfl⟩ := Int.eq_ofNat_of_zero_le k0
  have k2 : k < xs.length := by omega
  simp
  refine run_cons ?_
  have mk : mulOk 1000000000000000000000000000000000000000000000000000000000000 1000000000000000000000000000000000000000000000000000000000000 = true := mul_log (by decide +kernel) (by decide +kernel)
  refine run_fr ?_
  have evi : Run (evI g (callF g (n + 5)) (.ex (.tup (.cons (.lit (.bl true)) (.cons (.lit .non) (.cons (.lit (.str "1")) (.cons (.lst (.cons (.lit (.int 1)) .nil)) (.cons (.tup (.cons (.lit (.int 1)) .nil)) (.cons (.bin .mul (.bin .pow (.lit (.int 10)) (.lit (.int 60))) (.bin .pow (.lit (.int 10)) (.lit (.int 60)))) .nil))))))))
      [some (.ref a), some (.ref M.length), v, some (.tup xs), some (.ref f), some (.int (k : Int)), none] M7) fun p => p = (.its [.bl true, .non, .str "1", .ref M7.length, .tup [.int 1], .int 1000000000000000000000000000000000000000000000000000000000000000000000000000000000000000000000000000000000000000000000000], M7 ++ [MO.lst [D.int 1]]) := by
    simp [evSs, evS, ev, evs, evV, evT, evTs, evp, evI, evO, evG, run_ok, run_bind, run_when, run_of, Lit.d, newM, sizeLine_eq, binD, pow60, mk]
  refine evi.mono ?_
  rintro _ rfl
  clear evi
  have hSf7 : ∀ i, M7.length ≤ i → hide S f i = false := fun i hi => hSf i (Nat.le_trans (Gr.len g7 hf7) hi)
  have hM7 : M7[f]? = some (.lst LL) := g7 _ _ (by omega) hM6
  have L8 : DatL (vw (hide S f) (M7 ++ [MO.lst [D.int 1]])) LL 240000 5 400 := L0.gl (Gl.vw ((g7.trans gwA.gr).gl hf6.no))
  have i1 : ∀ {V : Mem} {c h : Nat}, 2 ≤ c → Dat V (.int 1) c h 400 := fun h => c_int (by decide +kernel) h (by decide)
  refine loop_found (S := S) (n := n) (M0 := M) (B := B + 51) lM5 (by omega) (hf7.gw gwA) (gwA _ _ hM7) hLL ((g6.trans g7).trans gwA.gr) k2 (by omega) dl4 L8 ?_ rfl fun v' L M' m1 m2 m3 m4 m5 => ?_
  · intro x hx
    simp only [List.mem_cons, List.not_mem_nil, or_false] at hx
    rcases hx with rfl | rfl | rfl | rfl | rfl | rfl
    · exact Dat.of_bl (by omega)
    · exact Dat.of_non (by omega)
    · exact c_str (k := 1) (by decide +kernel) (by omega)
    · exact Dat.of_lst (vw_new hSf7 (Nat.le_refl _) at0) (DatL.one (i1 (c := 2) (h := 0) (by omega))) (by omega) (by omega)
    · exact Dat.of_tup (DatL.one (i1 (c := 2) (h := 0) (by omega))) (by omega) (by omega)
    · have e : (1000000000000000000000000000000000000000000000000000000000000000000000000000000000000000000000000000000000000000000000000 : Int).natAbs.log2 = 398 := by decide +kernel
      exact Dat.of_int (by omega) (by omega)
  · show Run (evSs g (callF g (n + 5)) f8_1 [some (.ref a), some (.ref M.length), v, some (.tup xs), some (.ref f), some (.int (k : Int)), v'] M') _
    refine run_cons ?_
    simp [evSs, evS, ev, evs, evV, evT, evTs, evp, evI, evO, evG, run_ok, run_bind, run_when, run_of]
    exact w f L M' lM5 m1 m2 (m3.gl vw_seen) (m4.mono (by omega)) m5
end Lw

namespace Lw
open PySem L2 Cp
def S0 : Nat → Bool := fun _ => false
theorem vw0 {M : Mem} : Gl M (vw S0 M) := fun i xs e => vw_lst.mpr ⟨rfl, e⟩
theorem Feed.lt {M : Mem} {a B : Nat} (hf : Feed M a B) : a < M.length := Gr.lt hf
/-- the look of one thing: the program's and the law's -/
theorem look_run {n : Nat} {M : Mem} {f p q r s t u : Option D} {d : D} {c h lb : Nat} {Q : Fl × Ev × Mem → Prop} (k : Dat M d c h lb) (hc : c ≤ 16777216) (hh : h ≤ 60)
    (w : ∀ M', Gw M M' → Q (.nx, [f, p, q, r, s, t, u, some d], M')) :
    Run (evSs g (callF g (n + 2)) (.cons (.iff (.val (.cmp .ne (.bi .repr (.cons (.tup (.cons (.call 0 (.cons (.var 7) .nil)) (.cons (.call 1 (.cons (.var 7) .nil)) (.cons (.call 2 (.cons (.var 7) .nil)) .nil)))) .nil)) (.bi .repr (.cons (.call 10 (.cons (.var 7) .nil)) .nil)))) (.cons (.ret (.lit (.bl false))) .nil) .nil) .nil) [f, p, q, r, s, t, u, some d] M) Q := by
  simp [evSs, evS, ev, evs, evV, evT, evTs, evp, evI, evO, evG, run_ok, run_bind, run_when, run_of]
  refine num_run k ?_
  simp
  refine word_run k hc fun M1 g1 => ?_
  simp
  refine cells_run (k.gw g1) hc fun M2 g2 => ?_
  have tr : ∀ V : Mem, Dat V (.tup [.bl (isNum d), .bl (isWord d), .bl (isCells d)]) 30 1 10 := fun V => Dat.of_tup (DatL.cons (Dat.bl _) (DatL.cons (Dat.bl _) (DatL.one (Dat.bl _)))) (by omega) (by omega)
  simp [sizeLine_eq]
  refine run_repr (tr _) (by omega) (by omega) (by omega) fun p1 h1 => ?_
  simp
  refine due_run (k.gw (g1.trans g2)) hc (by omega) fun M3 g3 => ?_
  simp
  refine run_repr (tr _) (by omega) (by omega) (by omega) fun p2 h2 => ?_
  have e : p1 = p2 := by
    have y : ∀ {V : Mem} {p : PyData}, Py V (.tup [.bl (isNum d), .bl (isWord d), .bl (isCells d)]) p → p = .tuple [.bool (isNum d), .bool (isWord d), .bool (isCells d)] := fun h => Py.det h (.tup (.cons (.bl _) (.cons (.bl _) (.cons (.bl _) .nil))))
    rw [y h1, y h2]
  subst e
  simp [cmpD, truth]
  exact w _ (g1.trans (g2.trans g3))
/-- the nears put to the things -/
theorem loop_near {n : Nat} {M : Mem} {a t : Nat} {sc w2 v : Option D} {L : List D} {Q : Fl × Ev × Mem → Prop} (h1 : a < t) (hf : Feed M a 401) (hM : M[t]? = some (.lst L)) (hL : L.length ≤ 12) (d0 : DatL (vw (hide S0 t) M) L 20000 5 700)
    (w : ∀ x' L' M', M'[t]? = some (.lst L') → L'.length ≤ 48 → DatL (vw (hide S0 t) M') L' 1300000 5 700 → Q (.nx, [sc, some (.ref a), w2, v, some (.ref t), x', none, none], M')) :
    Run (forX (.its (rngD 0 3)) (evG g (callF g (n + 6)) (.nm 5)) (fun s M => evSs g (callF g (n + 6)) (.cons (.expr (.meth .extend (.var 4) (.cons (.call 8 (.cons (.var 1) .nil)) .nil))) .nil) s M) wf 0 [sc, some (.ref a), w2, v, some (.ref t), none, none, none] M) Q := by
  have l3 : (rngD 0 3).length = 3 := by decide +kernel
  refine run_for (fun i st M' => ∃ (x' : Option D) (L' : List D), st = [sc, some (.ref a), w2, v, some (.ref t), x', none, none] ∧ M'[t]? = some (.lst L') ∧ L'.length ≤ 12 + 12 * i ∧ DatL (vw (hide S0 t) M') L' (20000 + 400000 * i) 5 700 ∧ Feed M' a (401 + 60 * i)) (by omega)
    ⟨none, L, rfl, hM, hL, d0, hf⟩ (fun i d st M' e ⟨x', L', e1, e2, e3, e4, e5⟩ => ?_) fun st M' ⟨x', L', e1, e2, e3, e4, e5⟩ => ?_
  · have hi := (List.getElem?_eq_some_iff.mp e).1
    subst e1
    have ht := (List.getElem?_eq_some_iff.mp e2).1
    simp [evSs, evS, ev, evs, evV, evT, evTs, evp, evI, evO, evG, run_ok, run_bind, run_when, run_of, Lit.d, tyM, Me.ofL, e2]
    refine near_run (S := hide S0 t) (n := n) e5 (by omega) (fun j hj => hide_new (S := S0) (fun _ _ => rfl) ht j hj) fun f L2 M2 f1 f2 f3 f4 f5 f6 => ?_
    have m2 : M2[t]? = some (.lst L') := f6 _ _ (by omega) e2
    simp [meD, extendD, m2, f2, sizeLine_eq]
    refine ⟨by omega, _, List.getElem?_set_self (List.getElem?_eq_some_iff.mp m2).1, by rw [List.length_append]; omega, ?_, (f5.mono (by omega)).set h1⟩
    exact (((e4.gl (Gl.vw (f6.gl e5.no))).append (f4.low (by decide))).gl vw_set).mono (by omega) (by omega)
  · subst e1
    rw [l3] at e3 e4
    exact w x' L' M' e2 (by omega) (e4.mono (by omega) (Nat.le_refl _))
theorem law_run {n : Nat} {ns : List Int} (hn : ns.length ≤ 63) : Run (callF g (n + 7) 11 [.frl (ns.map .int)] []) fun z => z.1 = .bl true := by
  refine run_call [.frl (ns.map .int)] (F := f11) rfl rfl ?_
  show Run (evSs g (callF g (n + 6)) _ [some (.frl (ns.map .int)), none, none, none, none, none, none, none] []) _
  refine run_cons ?_
  simp [evSs, evS, ev, evs, evV, evT, evTs, evp, evI, evO, evG, run_ok, run_bind, run_when, run_of]
  refine feed_run hn fun M a hf => ?_
  simp
  generalize D.frl (ns.map D.int) = sc
  refine run_cons ?_
  have rg : rngOk2 0 60 = true := by decide
  simp [evSs, evS, ev, evs, evV, evT, evTs, evp, evI, evO, evG, run_ok, run_bind, run_when, run_of, Lit.d, rg]
  refine draw_run hf (by omega) (by decide) (by decide) fun k M1 k0 k1 hf1 g1 => ?_
  obtain ⟨k, rfl⟩ := Int.eq_ofNat_of_zero_le k0
  have k2 : k < 60 := by omega
  simp [setsE]
  have lw : (rngD 0 60).length = 60 := by decide +kernel
  have dw : ∀ V : Mem, DatL V (rngD 0 60) 600 0 700 := fun V => (DatL.all (c := 8) (h := 0) (lb := 700) fun x hx => by
    unfold rngD at hx
    obtain ⟨i, hi, rfl⟩ := List.mem_map.mp hx
    have hi := List.mem_range.mp hi
    have hi : i < 60 := hi
    exact Dat.of_int (log_lt (by omega) (by decide)) (by have := log_lt (n := ((0 : Int) + (i : Nat)).natAbs) (k := 6) (by omega) (by decide); omega)).mono (by rw [lw]; omega) (Nat.le_refl _)
  generalize rngD 0 60 = wide at lw dw ⊢
  refine run_cons ?_
  simp [evSs, evS, ev, evs, evV, evT, evTs, evp, evI, evO, evG, run_ok, run_bind, run_when, run_of, Lit.d]
  refine ⟨by decide, run_comp (xs := rngD 0 10) (fun i M' acc => Feed M' a (1 + 40 * i) ∧ DatL (vw S0 M') acc (1002 * i) 2 700) (by decide +kernel) ⟨hf1, DatL.nil.mono (Nat.zero_le _) (Nat.zero_le _)⟩ (fun i x M' acc e hi ⟨f1, f2⟩ => ?_) fun M2 acc hl ⟨hf2, f2⟩ => ?_⟩
  · have h10 : (rngD 0 10).length = 10 := by decide +kernel
    have hi := (List.getElem?_eq_some_iff.mp e).1
    simp [wipeE]
    refine thing_run (S := S0) (n := n + 3) f1 (by omega) (fun _ _ => rfl) fun d' M3 p1 p2 p3 => ?_
    refine ⟨p2.mono (by omega), ?_⟩
    exact ((f2.gl (Gl.vw (p3.gl f1.no))).append (DatL.one p1)).mono (by omega) (by omega)
  · have h10 : (rngD 0 10).length = 10 := by decide +kernel
    rw [h10] at hl hf2 f2
    have ek := cut_lo (xs := wide) (i := k) (by omega)
    have ek2 : cutL wide (some ((k : Int) + 1)) none = wide.drop (k + 1) := cut_hi (i := k + 1) (by omega)
    have lt : (wide.take k).length ≤ 60 := by rw [List.length_take]; omega
    have ld : (wide.drop (k + 1)).length ≤ 60 := by rw [List.length_drop]; omega
    have d2 : ∀ V : Mem, Dat V (.tup (wide.take k ++ .non :: wide.drop (k + 1))) 1300 1 700 := fun V => Dat.of_tup (((dw V).take k).append (DatL.cons Dat.non ((dw V).drop (k + 1)))) (by omega) (by omega)
    have dt : ∀ V : Mem, DatL V [.tup wide, .tup (wide.take k ++ .non :: wide.drop (k + 1))] 2000 1 700 := fun V => (DatL.cons (Dat.tup (dw V)) (DatL.one (d2 V))).mono (by omega) (by omega)
    simp [newM, slcD, ek, ek2, binD, sizeLine_eq, at0, at1]
    simp only [List.length_take, List.length_drop] at lt ld
    refine ⟨by omega, by omega, by omega, ?_⟩
    generalize (D.tup (wide.take k ++ .non :: wide.drop (k + 1))) = w2 at dt
    have dL : DatL (vw S0 M2) (acc ++ [.tup wide, w2]) 20000 5 700 := (f2.append (dt _)).mono (by omega) (by omega)
    have lL : (acc ++ [.tup wide, w2]).length ≤ 12 := by rw [List.length_append]; show acc.length + 2 ≤ 12; omega
    have a2 := at2 (M := M2) (x := MO.lst acc) (y := MO.lst [D.tup wide, w2]) (z := MO.lst (acc ++ [D.tup wide, w2])) (L := [])
    have gl : Gl (vw S0 M2) (vw (hide S0 (M2.length + 2)) (M2 ++ [MO.lst acc, MO.lst [D.tup wide, w2], MO.lst (acc ++ [D.tup wide, w2])])) := fun i xs e => by
      rw [vw_lst] at e ⊢
      have hi := (List.getElem?_eq_some_iff.mp e.2).1
      refine ⟨?_, gwA _ _ e.2⟩
      show (S0 i || i == M2.length + 2) = false
      rw [e.1, Bool.false_or]
      exact beq_eq_false_iff_ne.mpr (by omega)
    have dL := dL.gl gl
    have la := Gr.lt hf2
    have hf3 : Feed (M2 ++ [MO.lst acc, MO.lst [D.tup wide, w2], MO.lst (acc ++ [D.tup wide, w2])]) a 401 := (hf2.mono (by omega)).gw gwA
    have ltt : a < M2.length + 2 := by omega
    show Run (evSs g (callF g (n + 6)) f11_4 [some sc, some (.ref a), some (.tup wide), some (.int (k : Int)), some (.ref (M2.length + 2)), none, none, none] _) _
    generalize (M2 ++ [MO.lst acc, MO.lst [D.tup wide, w2], MO.lst (acc ++ [D.tup wide, w2])]) = M3 at a2 dL hf3 ⊢
    generalize acc ++ [D.tup wide, w2] = L at lL a2 dL
    generalize M2.length + 2 = t at ltt a2 dL ⊢
    refine run_cons (run_fr ?_)
    have evi : Run (evI g (callF g (n + 6)) (.rg1 (.lit (.int 3))) [some sc, some (.ref a), some (.tup wide), some (.int (k : Int)), some (.ref t), none, none, none] M3) fun p => p = (.its (rngD 0 3), M3) := by
      have rg3 : rngOk 0 3 = true := by decide
      simp [evSs, evS, ev, evs, evV, evT, evTs, evp, evI, evO, evG, run_ok, run_bind, run_when, run_of, Lit.d, rg3]
    refine evi.mono ?_
    rintro _ rfl
    refine loop_near (n := n) ltt hf3 a2 lL dL fun x' L' M4 m1 m2 m3 => ?_
    show Run (evSs g (callF g (n + 6)) f11_3 [some sc, some (.ref a), some (.tup wide), some (.int (k : Int)), some (.ref t), x', none, none] M4) _
    clear dL a2 hf3 evi
    have dM := m3.gl vw_self
    have dT : Dat M4 (.ref t) 1300002 6 700 := Dat.lst m1 dM
    refine run_cons ?_
    simp [evSs, evS, ev, evs, evV, evT, evTs, evp, evI, evO, evG, run_ok, run_bind, run_when, run_of]
    refine run_repr dT (by omega) (by omega) (by omega) fun p hp => ?_
    simp
    refine run_cons (run_fr ?_)
    have evi : Run (evI g (callF g (n + 6)) (.ex (.var 4)) [some sc, some (.ref a), some (.tup wide), some (.int (k : Int)), some (.ref t), x', some (.str p.shown), none] M4) fun q => q = (.live t, M4) := by
      simp [evSs, evS, ev, evs, evV, evT, evTs, evp, evI, evO, evG, run_ok, run_bind, run_when, run_of, m1]
    refine evi.mono ?_
    rintro _ rfl
    refine run_forL (xs := L') (fun i st M' => ∃ v, st = [some sc, some (.ref a), some (.tup wide), some (.int (k : Int)), some (.ref t), x', some (.str p.shown), v] ∧ Gw M4 M') (by omega) ⟨none, rfl, .refl⟩ (fun i st M' ⟨v, _, gg⟩ => gg _ _ m1) (fun i d st M' e ⟨v, e1, gg⟩ => ?_) fun st M' ⟨v, e1, gg⟩ => ?_
    · subst e1
      have dd := (dM.mem d (List.mem_of_getElem? e)).gw gg
      simp [evG]
      refine (look_run (n := n + 4) (Q := fun q => ∃ M', q = (.nx, [some sc, some (.ref a), some (.tup wide), some (.int (k : Int)), some (.ref t), x', some (.str p.shown), some d], M') ∧ Gw M4 M') dd (by omega) (by omega) fun M5 g5 => ⟨M5, rfl, gg.trans g5⟩).mono fun q hq => ?_
      obtain ⟨M5, rfl, g5⟩ := hq
      exact ⟨⟨some d, rfl⟩, g5⟩
    · subst e1
      show Run (evSs g (callF g (n + 6)) f11_1 [some sc, some (.ref a), some (.tup wide), some (.int (k : Int)), some (.ref t), x', some (.str p.shown), v] M') _
      refine run_cons ?_
      simp [evSs, evS, ev, evs, evV, evT, evTs, evp, evI, evO, evG, run_ok, run_bind, run_when, run_of]
      refine run_repr (dT.gw gg) (by omega) (by omega) (by omega) fun p2 hp2 => ?_
      have : p2 = p := Py.det hp2 (hp.gl gg.gl)
      subst this
      simp [cmpD]
def deep : Nat := 20
theorem run : ∀ ns : List Int, ns.length ≤ 63 → (∀ z ∈ ns, Builtin.Int.intBits z ≤ 1048576) → ∃ M', callF g deep 11 [.frl (ns.map .int)] [] = .ok (.bl true, M') := fun ns hn _ => by
  obtain ⟨z, e, h⟩ := law_run (n := 13) hn
  obtain ⟨z1, M'⟩ := z
  have h : z1 = .bl true := h
  subst h
  exact ⟨M', e⟩
end Lw

open PySem PySem.W PyProof.Rows in
set_option maxRecDepth 100000 in
set_option maxHeartbeats 0 in
theorem PySem.Challenge.cw_cellpacts_k01_kinds_holds : PySem.Challenge.rw_cellpacts_k01_kinds.Holds := by
  w_on; o_law; k_head; (case hw => w_witness2)
  k_fill
  refine Cp.law_walk (l := PySem.Challenge.rw_cellpacts_k01_kinds) (G := Lw.g) (D := Lw.f11) (k := Lw.deep) (f := 11) (x := "_law_script") rfl rfl ⟨rfl, by decide, by decide⟩ rfl rfl rfl (fun w h Y => PySem.W.kIn_of Y) ?F Lw.run
  case F =>
    intro w mg h X N
    refine' Lw.all_mk X N ?a0 ?l0 ?c0 ?k0 ?a1 ?l1 ?c1 ?k1 ?a2 ?l2 ?c2 ?k2 ?a3 ?l3 ?c3 ?k3 ?a4 ?l4 ?c4 ?k4 ?a5 ?l5 ?c5 ?k5 ?a6 ?l6 ?c6 ?k6 ?a7 ?l7 ?c7 ?k7 ?a8 ?l8 ?c8 ?k8 ?a9 ?l9 ?c9 ?k9 ?a10 ?l10 ?c10 ?k10 ?a11 ?l11 ?c11 ?k11 ?gl0 ?gl1 ?z0 ?z1 ?z2 ?z3 ?z4 ?z5 ?z6 ?z7 ?z8 ?z9 ?z10 ?z11 ?z12 ?z13 ?z14 ?z15 ?z16 ?z17
    (case a0 => k_is)
    (case l0 => k_is)
    (case c0 => k_is)
    (case k0 => k_is)
    (case a1 => k_is)
    (case l1 => k_is)
    (case c1 => k_is)
    (case k1 => k_is)
    (case a2 => k_is)
    (case l2 => k_is)
    (case c2 => k_is)
    (case k2 => k_is)
    (case a3 => k_is)
    (case l3 => k_is)
    (case c3 => k_is)
    (case k3 => k_is)
    (case a4 => k_is)
    (case l4 => k_is)
    (case c4 => k_is)
    (case k4 => k_is)
    (case a5 => k_is)
    (case l5 => k_is)
    (case c5 => k_is)
    (case k5 => k_is)
    (case a6 => k_is)
    (case l6 => k_is)
    (case c6 => k_is)
    (case k6 => k_is)
    (case a7 => k_is)
    (case l7 => k_is)
    (case c7 => k_is)
    (case k7 => k_is)
    (case a8 => k_is)
    (case l8 => k_is)
    (case c8 => k_is)
    (case k8 => k_is)
    (case a9 => k_is)
    (case l9 => k_is)
    (case c9 => k_is)
    (case k9 => k_is)
    (case a10 => k_is)
    (case l10 => k_is)
    (case c10 => k_is)
    (case k10 => k_is)
    (case a11 => k_is)
    (case l11 => k_is)
    (case c11 => k_is)
    (case k11 => k_is)
    (case gl0 => k_is)
    (case gl1 => k_is)
    (case z0 => k_is)
    (case z1 => k_is)
    (case z2 => k_is)
    (case z3 => k_is)
    (case z4 => k_is)
    (case z5 => k_is)
    (case z6 => k_is)
    (case z7 => k_is)
    (case z8 => k_is)
    (case z9 => k_is)
    (case z10 => k_is)
    (case z11 => k_is)
    (case z12 => k_is)
    (case z13 => k_is)
    (case z14 => k_is)
    (case z15 => k_is)
    (case z16 => k_is)
    (case z17 => k_is)
