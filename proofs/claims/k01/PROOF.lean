import PyProof.Rows.All
import Wide.All
import OpenK.AllK
import Wide.FinOn
import HandS.ForMost
import HandS.Exc
import HandS.TryOnly
import HandS.ExcOwn
import HandS.WordsExc
import HandS.Deep
import HandS.IsInst
import HandS.TupAny
import HandS.TupLe
import HandS.Zip
import HandS.Flow
import HandS.Defaults
import HandS.Wide
import KE.SortData
import HandS.Set
import HandS.SetTxt0
import HandS.SetFor
import KE.GoesEnum
import HandS.Dict
import HandS.Walk
import HandS.HeadEnd
import HandS.HeadHook4
import HandS.Head2
import PySem.Challenge.RW_rowveil_k01_what_is_a_ground
set_option Elab.async false
set_option linter.all false
set_option maxRecDepth 100000
set_option maxHeartbeats 4000000
/-! the data of the pure part of Python, what stands for it in the heap -/
namespace M
open PySem PySem.Spec PyProof.Rows L2

inductive D where
  | non | bl (b : Bool) | int (i : Int) | str (x : Str)
  | tup (xs : List D) | lst (xs : List D)
  | dct (kvs : List (D × D))
  | ins (c : Nat) (fs : List D)
  deriving Inhabited

/-- a changeable object of the call: a list, a dict; given away -/
inductive O where
  | lst (xs : List D) | dt (kvs : List (List Key × D)) | dead
  deriving Inhabited

inductive SV where
  | t (d : D) | o (i : Nat)
  deriving Inhabited

abbrev St' := List O
abbrev Ev := List (Option SV)

inductive R (α : Type) where
  | ok (a : α) (S : St') | exc (c : Nat) (p : List D) (S : St') | bad

namespace R
def bind {α β : Type} : R α → (α → St' → R β) → R β
  | .ok a S, f => f a S
  | .exc c p S, _ => .exc c p S
  | .bad, _ => .bad
@[simp] theorem bind_ok {α β : Type} (a : α) (S : St') (f : α → St' → R β) : (R.ok a S).bind f = f a S := rfl
@[simp] theorem bind_exc {α β : Type} (c : Nat) (p : List D) (S : St') (f : α → St' → R β) : (R.exc c p S : R α).bind f = .exc c p S := rfl
@[simp] theorem bind_bad {α β : Type} (f : α → St' → R β) : (R.bad : R α).bind f = .bad := rfl
theorem bind_assoc {α β γ : Type} (r : R α) (f : α → St' → R β) (g : β → St' → R γ) : (r.bind f).bind g = r.bind fun a S => (f a S).bind g := by cases r <;> rfl
def opt {α : Type} (o : Option α) (S : St') : R α := match o with
  | some a => .ok a S
  | none => .bad
@[simp] theorem opt_some {α : Type} (a : α) (S : St') : opt (some a) S = .ok a S := rfl
@[simp] theorem opt_none {α : Type} (S : St') : opt (none : Option α) S = .bad := rfl
end R

/-- the addresses of the live objects: not to be seen by data -/
def Own (m : List Addr) (S : St') (a : Addr) : Prop := ∃ i : Nat, m[i]? = some a ∧ ∃ o, S[i]? = some o ∧ o ≠ .dead

/-- as SqT, SqL, what is tracked being none of the live objects -/
def QT (K : PySem.W.Frag) (H : Hp) (N : Addr → Prop) (a : Addr) (xs : List V) : Prop :=
  (Rd H a (.tup xs) ∧ ¬ N a) ∨ ∃ (o : Obj) (its : Array Value) (n : Nat), K.lookup a = some o ∧ o.cls = .type "tuple" ∧ o.data = .seq its n ∧ its.size ≤ sizeLine ∧ Vals xs its.toList
def QL (H : Hp) (N : Addr → Prop) (a : Addr) (xs : List V) : Prop := Rd H a (.lst xs) ∧ ¬ N a
theorem QT.sq {K : PySem.W.Frag} {H : Hp} {N : Addr → Prop} {a : Addr} {xs : List V} (h : QT K H N a xs) : SqT K H a xs := h.elim (fun z => .inl z.1) .inr
theorem QL.sq {K : PySem.W.Frag} {H : Hp} {N : Addr → Prop} {a : Addr} {xs : List V} (h : QL H N a xs) : SqL K H a xs := .inl h.1

mutual
inductive Rep (K : PySem.W.Frag) (H : Hp) (N : Addr → Prop) : V → D → Prop
  | non : Rep K H N .non .non
  | bl (b : Bool) : Rep K H N (.bl b) (.bl b)
  | int (i : Int) : Rep K H N (.int i) (.int i)
  | str (x : Str) : Rep K H N (.str x) (.str x)
  | tup {a : Addr} {vs : List V} {ds : List D} : QT K H N a vs → Reps K H N vs ds → Rep K H N (.ref a) (.tup ds)
  | lst {a : Addr} {vs : List V} {ds : List D} : QL H N a vs → Reps K H N vs ds → Rep K H N (.ref a) (.lst ds)
inductive Reps (K : PySem.W.Frag) (H : Hp) (N : Addr → Prop) : List V → List D → Prop
  | nil : Reps K H N [] []
  | cons {v : V} {vs : List V} {d : D} {ds : List D} : Rep K H N v d → Reps K H N vs ds → Reps K H N (v :: vs) (d :: ds)
end

/-- what is seen stays, and stays seen -/
def Fr (H : Hp) (m : List Addr) (S : St') (H' : Hp) (m' : List Addr) (S' : St') : Prop :=
  (∀ a o, H a = some o → ¬ Own m S a → H' a = some o ∧ ¬ Own m' S' a) ∧ m <+: m'

theorem Fr.refl {H : Hp} {m : List Addr} {S : St'} : Fr H m S H m S := ⟨fun _ _ h n => ⟨h, n⟩, List.prefix_refl _⟩
theorem Fr.trans {H H1 H2 : Hp} {m m1 m2 : List Addr} {S S1 S2 : St'} (a : Fr H m S H1 m1 S1) (b : Fr H1 m1 S1 H2 m2 S2) : Fr H m S H2 m2 S2 :=
  ⟨fun c o h n => let ⟨h1, n1⟩ := a.1 c o h n; b.1 c o h1 n1, a.2.trans b.2⟩

section
variable {K : PySem.W.Frag} {H H' : Hp} {N N' : Addr → Prop}
theorem QT.mono (f : ∀ a o, H a = some o → ¬ N a → H' a = some o ∧ ¬ N' a) {a : Addr} {xs : List V} (h : QT K H N a xs) : QT K H' N' a xs := by
  rcases h with ⟨h | ⟨o, h⟩, n⟩ | h
  · exact .inl ⟨.inl (f _ _ h n).1, (f _ _ h n).2⟩
  · exact .inl ⟨.inr ⟨o, (f _ _ h n).1⟩, (f _ _ h n).2⟩
  · exact .inr h
theorem QL.mono (f : ∀ a o, H a = some o → ¬ N a → H' a = some o ∧ ¬ N' a) {a : Addr} {xs : List V} (h : QL H N a xs) : QL H' N' a xs := by
  rcases h with ⟨h | ⟨o, h⟩, n⟩
  · exact ⟨.inl (f _ _ h n).1, (f _ _ h n).2⟩
  · exact ⟨.inr ⟨o, (f _ _ h n).1⟩, (f _ _ h n).2⟩
mutual
theorem Rep.mono (f : ∀ a o, H a = some o → ¬ N a → H' a = some o ∧ ¬ N' a) : ∀ {v : V} {d : D}, Rep K H N v d → Rep K H' N' v d
  | _, _, .non => .non
  | _, _, .bl b => .bl b
  | _, _, .int i => .int i
  | _, _, .str x => .str x
  | _, _, .tup q r => .tup (q.mono f) (Reps.mono f r)
  | _, _, .lst q r => .lst (q.mono f) (Reps.mono f r)
theorem Reps.mono (f : ∀ a o, H a = some o → ¬ N a → H' a = some o ∧ ¬ N' a) : ∀ {v : List V} {d : List D}, Reps K H N v d → Reps K H' N' v d
  | _, _, .nil => .nil
  | _, _, .cons q r => .cons (Rep.mono f q) (Reps.mono f r)
end
end

/-- an object as it stands -/
def ORep (K : PySem.W.Frag) (H : Hp) (N : Addr → Prop) (a : Addr) : O → Prop
  | .lst xs => ∃ vs, H a = some (.lst vs) ∧ Reps K H N vs xs
  | .dt kvs => ∃ kv : List (List Key × V), H a = some (.dT kv) ∧ kv.map (·.1) = kvs.map (·.1) ∧ (kvs.map (·.1)).Nodup ∧ Reps K H N (kv.map (·.2)) (kvs.map (·.2))
  | .dead => ∃ o, H a = some o

structure StOk (K : PySem.W.Frag) (H : Hp) (m : List Addr) (S : St') : Prop where
  len : m.length = S.length
  nd : m.Nodup
  at_ : ∀ (i : Nat) (a : Addr) (o : O), m[i]? = some a → S[i]? = some o → ORep K H (Own m S) a o

def RepS (K : PySem.W.Frag) (H : Hp) (m : List Addr) (S : St') (v : V) : SV → Prop
  | .t d => Rep K H (Own m S) v d
  | .o i => ∃ a, m[i]? = some a ∧ v = .ref a
inductive RepSs (K : PySem.W.Frag) (H : Hp) (m : List Addr) (S : St') : List V → List SV → Prop
  | nil : RepSs K H m S [] []
  | cons {v : V} {vs : List V} {d : SV} {ds : List SV} : RepS K H m S v d → RepSs K H m S vs ds → RepSs K H m S (v :: vs) (d :: ds)

theorem RepS.mono {K : PySem.W.Frag} {H H' : Hp} {m m' : List Addr} {S S' : St'} {v : V} {d : SV} (f : Fr H m S H' m' S') (h : RepS K H m S v d) : RepS K H' m' S' v d := by
  cases d with
  | t d => exact Rep.mono f.1 h
  | o i =>
    obtain ⟨a, e, r⟩ := h
    refine ⟨a, ?_, r⟩
    obtain ⟨t, rfl⟩ := f.2
    have hi : i < m.length := (List.getElem?_eq_some_iff.mp e).1
    rw [List.getElem?_append_left hi]; exact e
theorem RepSs.mono {K : PySem.W.Frag} {H H' : Hp} {m m' : List Addr} {S S' : St'} (f : Fr H m S H' m' S') : ∀ {vs : List V} {ds : List SV}, RepSs K H m S vs ds → RepSs K H' m' S' vs ds
  | _, _, .nil => .nil
  | _, _, .cons q r => .cons (q.mono f) (RepSs.mono f r)
theorem RepSs.length {K : PySem.W.Frag} {H : Hp} {m : List Addr} {S : St'} : ∀ {vs : List V} {ds : List SV}, RepSs K H m S vs ds → vs.length = ds.length
  | _, _, .nil => rfl
  | _, _, .cons _ r => by simp [RepSs.length r]
theorem Reps.length {K : PySem.W.Frag} {H : Hp} {N : Addr → Prop} : ∀ {vs : List V} {ds : List D}, Reps K H N vs ds → vs.length = ds.length
  | _, _, .nil => rfl
  | _, _, .cons _ r => by simp [Reps.length r]

/-- the slots -/
def RelE (K : PySem.W.Frag) (H : Hp) (m : List Addr) (S : St') (σ : L2.St) (ρ : Ev) : Prop :=
  σ.length = ρ.length ∧ ∀ (i : Nat) (d : SV), ρ[i]? = some (some d) → ∃ v, σ[i]? = some (some v) ∧ RepS K H m S v d
theorem RelE.mono {K : PySem.W.Frag} {H H' : Hp} {m m' : List Addr} {S S' : St'} {σ : L2.St} {ρ : Ev} (f : Fr H m S H' m' S') (h : RelE K H m S σ ρ) : RelE K H' m' S' σ ρ :=
  ⟨h.1, fun i d e => let ⟨v, a, b⟩ := h.2 i d e; ⟨v, a, b.mono f⟩⟩
theorem RelE.set {K : PySem.W.Frag} {H : Hp} {m : List Addr} {S : St'} {σ : L2.St} {ρ : Ev} {v : V} {d : SV} (h : RelE K H m S σ ρ) (i : Nat) (r : RepS K H m S v d) : RelE K H m S (σ.set i (some v)) (ρ.set i (some d)) := by
  refine ⟨by simp [h.1], fun j e he => ?_⟩
  by_cases hj : i = j
  · subst hj
    have hi : i < ρ.length := by
      have := (List.getElem?_eq_some_iff.mp he).1
      simpa using this
    rw [List.getElem?_set_self hi] at he
    cases he
    exact ⟨v, by rw [List.getElem?_set_self (by rw [h.1]; exact hi)], r⟩
  · rw [List.getElem?_set_ne hj] at he
    obtain ⟨u, a, b⟩ := h.2 j e he
    exact ⟨u, by rw [List.getElem?_set_ne hj]; exact a, b⟩

/-- what is wanted of an exception: its class, its fields -/
abbrev WD := Nat → List D → Hp → List Addr → St' → Prop
/-- what a run of data asks of what follows -/
def Run {α : Type} (K : PySem.W.Frag) (P : Hp → List Addr → St' → α → Prop) (W : WD) (H : Hp) (m : List Addr) (S : St') : R α → Prop
  | .ok a S' => ∀ H' m', StOk K H' m' S' → Fr H m S H' m' S' → P H' m' S' a
  | .exc c p S' => ∀ H' m', StOk K H' m' S' → Fr H m S H' m' S' → W c p H' m' S'
  | .bad => False
theorem Run.bind {α β : Type} {K : PySem.W.Frag} {P : Hp → List Addr → St' → α → Prop} {P' : Hp → List Addr → St' → β → Prop} {W : WD} {H : Hp} {m : List Addr} {S : St'} {r : R α} {f : α → St' → R β}
    (h : Run K P' W H m S (r.bind f)) (hk : ∀ a S1 H1 m1, StOk K H1 m1 S1 → Fr H m S H1 m1 S1 → Run K P' W H1 m1 S1 (f a S1) → P H1 m1 S1 a) : Run K P W H m S r := by
  cases r with
  | bad => exact h
  | exc c p S' => exact h
  | ok a S1 =>
    intro H1 m1 ok1 f1
    refine hk a S1 H1 m1 ok1 f1 ?_
    have h' : Run K P' W H m S (f a S1) := h
    revert h'
    cases f a S1 with
    | bad => exact id
    | exc c p S2 => exact fun h' H2 m2 ok2 f2 => h' H2 m2 ok2 (f1.trans f2)
    | ok b S2 => exact fun h' H2 m2 ok2 f2 => h' H2 m2 ok2 (f1.trans f2)
end M

/-! a small language of expressions and statements, and what it comes to -/
namespace M
open PySem PySem.Spec PyProof.Rows L2

inductive Bn where | add | sub | mul | fdiv | mod | pow
  deriving DecidableEq
inductive Cm where | eq | ne | lt | le | gt | ge | isin | notin | is_ | isnot
  deriving DecidableEq
inductive Bi where | len | int | all | any | sum | list | tuple | sorted | repr | str | min | max
  deriving DecidableEq
inductive Ty where | int | bool | str | tuple | list
  deriving DecidableEq
inductive Mt where | index | split | count | join
  deriving DecidableEq
inductive Fz where | lenset | sortset | listrange
  deriving DecidableEq
inductive Tg where | v (i : Nat) | tp (is : List Nat)
  deriving DecidableEq

mutual
inductive ME where
  | var (i : Nat) | lit (d : D) | glb (x : Str) (d : D)
  | tup (es : List ME) | lst (es : List ME)
  | bin (o : Bn) (a b : ME) | neg (a : ME)
  | cmp (o : Cm) (a b : ME) | cmp2 (o p : Cm) (a b c : ME)
  | and (a b : ME) | or (a b : ME) | not (a : ME)
  | ife (c a b : ME)
  | idx (a i : ME) | slc (a : ME) (lo hi : List ME)
  | call (f : Nat) (es : List ME)
  | bi (b : Bi) (es : List ME)
  | isi (a : ME) (t : Ty) | isit (a : ME) (ts : List Ty)
  | mth (m : Mt) (o : ME) (es : List ME)
  | lc (tg : Tg) (it : IT) (cs : List ME) (e : ME)
  | fz (f : Fz) (es : List ME)
  | dvals (i j : Nat)
inductive IT where
  | of (e : ME) | range1 (e : ME) | range2 (a b : ME) | enum (e : ME) | zip (a b : ME)
end

inductive MS where
  | doc | pass
  | asg (tg : Tg) (e : ME)
  | par (i j : Nat) (a b : ME)
  | new (i : Nat) (e : ME)
  | aug (i : Nat) (o : Bn) (e : ME)
  | app (i : Nat) (e : ME)
  | seti (i : Nat) (k e : ME)
  | newd (i : Nat)
  | putd (i : Nat) (k e : ME)
  | expr (e : ME)
  | ret (e : ME) | retN
  | ife (c : ME) (a b : List MS)
  | for_ (tg : Tg) (it : IT) (body : List MS)

/-! ### data -/
mutual
def toPy : D → PyData
  | .non => .none
  | .bl b => .bool b
  | .int i => .int i
  | .str x => .str x
  | .tup xs => .tuple (toPys xs)
  | .lst xs => .list (toPys xs)
  | .dct _ => .dict []
  | .ins _ _ => .dict []
def toPys : List D → List PyData
  | [] => []
  | x :: xs => toPy x :: toPys xs
end
theorem toPys_eq : ∀ xs : List D, toPys xs = xs.map toPy
  | [] => rfl
  | x :: xs => by rw [toPys, toPys_eq xs]; rfl
def okD (d : D) : Bool := SeqAt.shaped (toPy d)
mutual
def deq : D → D → Bool
  | .non, .non => true
  | .bl a, .bl b => a == b
  | .bl a, .int j => (if a then 1 else 0) == j
  | .int i, .bl b => i == (if b then 1 else 0)
  | .int i, .int j => i == j
  | .str x, .str y => x == y
  | .lst xs, .lst ys => deqs xs ys
  | .tup xs, .tup ys => deqs xs ys
  | _, _ => false
def deqs : List D → List D → Bool
  | [], [] => true
  | x :: xs, y :: ys => deq x y && deqs xs ys
  | _, _ => false
end
def dlt (a b : D) : Bool := PySem.W.dataLt (toPy a) (toPy b)
def dle (a b : D) : Bool := !dlt b a
/-- the data can be sorted -/
def sortOk (xs : List D) : Bool :=
  (xs.all fun a => xs.all fun b => PySem.W.alike (toPy a) (toPy b)) && (xs.all fun a => decide ((toPy a).depth ≤ 64)) &&
  ((xs.all fun a => match a with | .tup (_ :: _) => true | _ => false) || (xs.all fun a => match a with | .non => false | .tup _ => false | _ => true)) && decide (xs.length ≤ sizeLine)

def binD : Bn → D → D → Option D
  | .add, .int i, .int j => some (.int (i + j))
  | .add, .str x, .str y => if x.length + y.length ≤ sizeLine then some (.str (x ++ y)) else none
  | .add, .lst xs, .lst ys => if xs.length + ys.length ≤ sizeLine then some (.lst (xs ++ ys)) else none
  | .add, .tup xs, .tup ys => if xs.length + ys.length ≤ sizeLine then some (.tup (xs ++ ys)) else none
  | .sub, .int i, .int j => some (.int (i - j))
  | .mul, .int i, .int j => if (i.natAbs < 2 ^ 63 ∨ j.natAbs < 2 ^ 63 ∨ i.natAbs.log2 + j.natAbs.log2 < 1000000) then some (.int (i * j)) else none
  | .mul, .lst xs, .int k => if -(2 ^ 63) ≤ k ∧ k < 2 ^ 63 ∧ xs.length * k.toNat ≤ sizeLine then some (.lst (List.replicate k.toNat xs).flatten) else none
  | .fdiv, .int i, .int j => if 0 < j ∧ j < 1073741824 then some (.int (i / j)) else none
  | .mod, .int i, .int j => if 0 < j then some (.int (i % j)) else none
  | .pow, .int i, .int j => if 0 ≤ j ∧ j ≤ 1000000 ∧ i.natAbs < 2 ^ 64 then some (.int (i ^ j.toNat)) else none
  | _, _, _ => none

def scalD : D → D → Bool
  | .int _, .int _ | .str _, .str _ | .bl _, .bl _ => true
  | _, _ => false
def strIn (x y : Str) : Bool := match x.cps.toList with
  | [c] => decide (c ∈ y.cps.toList)
  | _ => !(Builtin.Str.occurrences y x 0 y.length 1).isEmpty
def inD (x : D) : D → Option Bool
  | .str y => match x with
    | .str z => some (strIn z y)
    | _ => none
  | .lst ys => if okD x && okD (.lst ys) then some (ys.any fun z => deq z x) else none
  | .tup ys => if okD x && okD (.tup ys) then some (ys.any fun z => deq z x) else none
  | _ => none
def isD : D → D → Option Bool
  | .non, .non => some true
  | .bl _, .non | .int _, .non | .str _, .non | .tup _, .non | .lst _, .non => some false
  | .bl a, .bl b => some (a == b)
  | .non, .bl _ => some false
  | _, _ => none
def cmpD : Cm → D → D → Option Bool
  | .eq, a, b => if scalD a b || (okD a && okD b) then some (deq a b) else none
  | .ne, a, b => if scalD a b || (okD a && okD b) then some (!deq a b) else none
  | .lt, .int i, .int j => some (decide (i < j))
  | .le, .int i, .int j => some (decide (i ≤ j))
  | .gt, .int i, .int j => some (decide (j < i))
  | .ge, .int i, .int j => some (decide (j ≤ i))
  | .lt, .str x, .str y => some (decide (x.cps.toList < y.cps.toList))
  | .lt, .tup xs, .tup ys => if PySem.W.alike (toPy (.tup xs)) (toPy (.tup ys)) && decide ((toPy (.tup xs)).depth ≤ 64) then some (dlt (.tup xs) (.tup ys)) else none
  | .isin, a, b => inD a b
  | .notin, a, b => (inD a b).map (!·)
  | .is_, a, b => isD a b
  | .isnot, a, b => (isD a b).map (!·)
  | _, _, _ => none

def truD : D → Option Bool
  | .non => some false
  | .bl b => some b
  | .int i => some (i != 0)
  | .str x => if x.length ≤ sizeLine then some ((x.length : Int) != 0) else none
  | .lst xs => some (!xs.isEmpty)
  | .tup xs => some (!xs.isEmpty)
  | _ => none

def idxD : D → D → Option D
  | .lst xs, .int i => atI xs i
  | .tup xs, .int i => atI xs i
  | .str z, .int i => if z.length ≤ sizeLine then (atI z.cps.toList i).map fun c => .str ⟨#[c]⟩ else none
  | _, _ => none
def cutD (xs : List D) (lo hi : Option Int) : List D := (xs.drop (HT.sIx xs.length 0 lo)).take (HT.sIx xs.length xs.length hi - HT.sIx xs.length 0 lo)
def slcD : D → Option Int → Option Int → Option D
  | .lst xs, lo, hi => some (.lst (cutD xs lo hi))
  | .tup xs, lo, hi => some (.tup (cutD xs lo hi))
  | .str z, lo, hi => if z.length ≤ sizeLine then some (.str (cutS z lo hi)) else none
  | _, _, _ => none

def asBls : List D → Option (List Bool)
  | [] => some []
  | .bl b :: r => (asBls r).map (b :: ·)
  | _ :: _ => none
def asInts : List D → Option (List Int)
  | [] => some []
  | .int b :: r => (asInts r).map (b :: ·)
  | _ :: _ => none
def asStrs : List D → Option (List Str)
  | [] => some []
  | .str b :: r => (asStrs r).map (b :: ·)
  | _ :: _ => none

def biD : Bi → List D → Option D
  | .len, [.lst xs] => some (.int xs.length)
  | .len, [.tup xs] => some (.int xs.length)
  | .len, [.str x] => if x.length ≤ sizeLine then some (.int x.length) else none
  | .int, [.int i] => some (.int i)
  | .int, [.bl b] => some (.int (if b then 1 else 0))
  | .all, [.lst xs] => (asBls xs).map fun bs => .bl (bs.all id)
  | .any, [.lst xs] => (asBls xs).map fun bs => .bl (bs.any id)
  | .sum, [.lst xs] => (asInts xs).map fun ns => .int ns.sum
  | .list, [.lst xs] => some (.lst xs)
  | .list, [.tup xs] => some (.lst xs)
  | .tuple, [.lst xs] => some (.tup xs)
  | .tuple, [.tup xs] => some (.tup xs)
  | .sorted, [.lst xs] => if sortOk xs then some (.lst (xs.mergeSort dle)) else none
  | .repr, [.bl b] => some (.str (if b then "True" else "False"))
  | .min, [.int i, .int j] => some (.int (if j < i then j else i))
  | .max, [.int i, .int j] => some (.int (if j > i then j else i))
  | _, _ => none

def isiD : D → Ty → Bool
  | .int _, .int | .bl _, .int | .bl _, .bool | .str _, .str | .tup _, .tuple | .lst _, .list => true
  | _, _ => false

def firstEq (x : D) : List D → Nat → Option Nat
  | [], _ => none
  | y :: ys, n => if deq y x then some n else firstEq x ys (n + 1)
def mthD : Mt → D → List D → Option D
  | .index, .lst ys, [x] => if okD x && okD (.lst ys) then (firstEq x ys 0).map fun (n : Nat) => D.int (n : Int) else none
  | .split, .str a, [.str b] => if (b.length == 0) = false ∧ a.length + 2 ≤ sizeLine then some (.lst ((Txt.split a b).map .str)) else none
  | _, _, _ => none

/-- whose method it is -/
def mtOk : Mt → D → Bool
  | .index, .lst _ => true
  | .split, .str _ => true
  | .count, .str _ => true
  | .join, .str _ => true
  | _, _ => false

/-! ### what stands at a place -/
def peek (S : St') : SV → Option D
  | .t d => some d
  | .o i => match S[i]? with
    | some (.lst xs) => some (.lst xs)
    | _ => none
def grab (S : St') : SV → Option (D × St')
  | .t d => some (d, S)
  | .o i => match S[i]? with
    | some (.lst xs) => some (.lst xs, S.set i .dead)
    | _ => none
def grabs (S : St') : List SV → Option (List D × St')
  | [] => some ([], S)
  | v :: vs => match grab S v with
    | some (d, S1) => (grabs S1 vs).map fun (ds, S2) => (d :: ds, S2)
    | none => none
def peeks (S : St') : List SV → Option (List D)
  | [] => some []
  | v :: vs => match peek S v with
    | some d => (peeks S vs).map (d :: ·)
    | none => none
def setTg : List Nat → List D → Ev → Option Ev
  | [], [], ρ => some ρ
  | i :: is, d :: ds, ρ => setTg is ds (ρ.set i (some (.t d)))
  | _, _, _ => none
def bindTg : Tg → D → Ev → Option Ev
  | .v i, d, ρ => some (ρ.set i (some (.t d)))
  | .tp is, .tup ds, ρ => setTg is ds ρ
  | _, _, _ => none

inductive Src where
  | fix (xs : List D) | live (i : Nat)

/-! ### the run -/
abbrev FS := Nat → List SV → St' → R SV

/-- no exception may come here -/
def R.nox {α : Type} : R α → R α
  | .exc _ _ _ => .bad
  | r => r
@[simp] theorem R.nox_ok {α : Type} (a : α) (S : St') : (R.ok a S).nox = .ok a S := rfl
@[simp] theorem R.nox_exc {α : Type} (c : Nat) (p : List D) (S : St') : (R.exc c p S : R α).nox = .bad := rfl
@[simp] theorem R.nox_bad {α : Type} : (R.bad : R α).nox = .bad := rfl
/-- the item is put behind those that the list k has -/
def lcPut (k : Nat) (v : SV) (S : St') : R Unit := match grab S v with
  | some (x, S1) => match S1[k]? with
    | some (.lst acc) => if acc.length < sizeLine then .ok () (S1.set k (.lst (acc ++ [x]))) else .bad
    | _ => .bad
  | none => .bad
/-- a comprehension's turn -/
def lcTurn (tg : Tg) (c : Ev → St' → R Bool) (e : Ev → St' → R SV) (k : Nat) (d : D) (ρ : Ev) (S : St') : R Unit := match bindTg tg d ρ with
  | none => .bad
  | some ρ' => (c ρ' S).nox.bind fun b S1 => if b then (e ρ' S1).nox.bind fun v S2 => lcPut k v S2 else .ok () S1
def lcEnd (k : Nat) (S : St') : R (List D) := match S[k]? with
  | some (.lst acc) => .ok acc (S.take k)
  | _ => .bad
/-- the list that a comprehension makes: it stands as the object k meanwhile -/
def lcFix (tg : Tg) (c : Ev → St' → R Bool) (e : Ev → St' → R SV) (k : Nat) : List D → Ev → St' → R (List D)
  | [], _, S => lcEnd k S
  | d :: ds, ρ, S => (lcTurn tg c e k d ρ S).bind fun _ S1 => lcFix tg c e k ds ρ S1
/-- .. over an object, so many turns at most -/
def lcLive (tg : Tg) (c : Ev → St' → R Bool) (e : Ev → St' → R SV) (k i : Nat) : Nat → Nat → Ev → St' → R (List D)
  | n, j, ρ, S => match S[i]? with
    | some (.lst ys) => match ys[j]?, n with
      | none, _ => lcEnd k S
      | some _, 0 => .bad
      | some d, n + 1 => (lcTurn tg c e k d ρ S).bind fun _ S1 => lcLive tg c e k i n (j + 1) ρ S1
    | _ => .bad
def lcSrc (tg : Tg) (c : Ev → St' → R Bool) (e : Ev → St' → R SV) : Src → Ev → St' → R (List D)
  | .fix xs, ρ, S => lcFix tg c e S.length xs ρ (S ++ [.lst []])
  | .live i, ρ, S => match S[i]? with
    | some (.lst ys) => lcLive tg c e S.length i ys.length 0 ρ (S ++ [.lst []])
    | _ => .bad

def srcOf (S : St') : SV → Option Src
  | .t (.lst xs) => some (.fix xs)
  | .t (.tup xs) => some (.fix xs)
  | .t (.str x) => some (.fix (x.cps.toList.map fun c => .str ⟨#[c]⟩))
  | .t _ => none
  | .o i => match S[i]? with
    | some (.lst _) => some (.live i)
    | _ => none
def rangeD (lo hi : Int) : List D := (List.range (hi - lo).toNat).map fun (k : Nat) => D.int (lo + (k : Int))
def enumD (xs : List D) : List D := (xs.zipIdx).map fun p => D.tup [.int (p.2 : Nat), p.1]
def zipD (xs ys : List D) : List D := (xs.zip ys).map fun p => D.tup [p.1, p.2]
def rngOk (i : Int) : Bool := decide (-(2 ^ 62) ≤ i ∧ i < 2 ^ 62)

/-- each once, as first met -/
def dset {α : Type} [DecidableEq α] (xs : List α) : List α := xs.foldl (fun acc x => if x ∈ acc then acc else acc ++ [x]) []
def asKeys : List D → Option (List Key)
  | [] => some []
  | .int i :: r => (asKeys r).map (Sum.inl i :: ·)
  | .str x :: r => (asKeys r).map (Sum.inr x :: ·)
  | _ :: _ => none
def sqOf : D → Option (List D)
  | .lst xs => some xs
  | .tup xs => some xs
  | _ => none
def lensetD (d : D) : Option D := (sqOf d).bind fun xs => (asStrs xs).bind fun ks => if ks.length + 1 < scanBound then some (.int ((dset ks).length : Nat)) else none
def kD : Key → D
  | .inl i => .int i
  | .inr x => .str x
def sortsetD (d : D) : Option D := (sqOf d).bind fun xs => (asStrs xs).bind fun ks => if ks.length + 1 < scanBound then some (.lst (((dset ks).map D.str).mergeSort dle)) else none
def fzD : Fz → List D → Option D
  | .sortset, [d] => sortsetD d
  | .lenset, [d] => lensetD d
  | .listrange, [.int a, .int b] => if rngOk a && rngOk b && decide ((b - a).toNat ≤ sizeLine) then some (.lst (rangeD a b)) else none
  | _, _ => none

def tru (r : R SV) : R Bool := r.bind fun v S => R.opt ((peek S v).bind truD) S
def tests (cs : List (Ev → St' → R Bool)) : Ev → St' → R Bool := match cs with
  | [] => fun _ S => .ok true S
  | c :: _ => c

mutual
def evalE (F : FS) : ME → Ev → St' → R SV
  | .var i, ρ, S => match ρ[i]? with
    | some (some v) => .ok v S
    | _ => .bad
  | .lit d, _, S => .ok (.t d) S
  | .glb _ d, _, S => .ok (.t d) S
  | .tup es, ρ, S => (evalEs F es ρ S).bind fun vs S1 => match grabs S1 vs with
    | some (ds, S2) => if ds.length ≤ sizeLine then .ok (.t (.tup ds)) S2 else .bad
    | none => .bad
  | .lst es, ρ, S => (evalEs F es ρ S).bind fun vs S1 => match grabs S1 vs with
    | some (ds, S2) => if ds.length ≤ sizeLine then .ok (.t (.lst ds)) S2 else .bad
    | none => .bad
  | .bin o a b, ρ, S => (evalE F a ρ S).bind fun x S1 => (evalE F b ρ S1).bind fun y S2 =>
      R.opt ((peek S2 x).bind fun d => (peek S2 y).bind fun e => (binD o d e).map .t) S2
  | .neg a, ρ, S => (evalE F a ρ S).bind fun x S1 => match x with
    | .t (.int i) => .ok (.t (.int (-i))) S1
    | _ => .bad
  | .cmp o a b, ρ, S => (evalE F a ρ S).bind fun x S1 => (evalE F b ρ S1).bind fun y S2 =>
      R.opt ((peek S2 x).bind fun d => (peek S2 y).bind fun e => (cmpD o d e).map fun b => .t (.bl b)) S2
  | .cmp2 o p a b c, ρ, S => (evalE F a ρ S).bind fun x S1 => (evalE F b ρ S1).bind fun y S2 =>
      (R.opt ((peek S2 x).bind fun d => (peek S2 y).bind fun e => cmpD o d e) S2).bind fun k S3 =>
        if k then (evalE F c ρ S3).bind fun z S4 => R.opt ((peek S4 y).bind fun e => (peek S4 z).bind fun f => (cmpD p e f).map fun b => .t (.bl b)) S4
        else .ok (.t (.bl false)) S3
  | .and a b, ρ, S => (evalE F a ρ S).bind fun x S1 => (R.opt ((peek S1 x).bind truD) S1).bind fun k S2 => if k then evalE F b ρ S2 else .ok x S2
  | .or a b, ρ, S => (evalE F a ρ S).bind fun x S1 => (R.opt ((peek S1 x).bind truD) S1).bind fun k S2 => if k then .ok x S2 else evalE F b ρ S2
  | .not a, ρ, S => (tru (evalE F a ρ S)).bind fun k S1 => .ok (.t (.bl (!k))) S1
  | .ife c a b, ρ, S => (tru (evalE F c ρ S)).bind fun k S1 => if k then evalE F a ρ S1 else evalE F b ρ S1
  | .idx a i, ρ, S => (evalE F a ρ S).bind fun x S1 => (evalE F i ρ S1).bind fun y S2 =>
      R.opt ((peek S2 x).bind fun d => (peek S2 y).bind fun e => (idxD d e).map .t) S2
  | .slc a lo hi, ρ, S => (evalE F a ρ S).bind fun x S1 => (evalP F lo ρ S1).bind fun l S2 => (evalP F hi ρ S2).bind fun h S3 =>
      R.opt ((peek S3 x).bind fun d => (slcD d l h).map .t) S3
  | .call f es, ρ, S => (evalEs F es ρ S).bind fun vs S1 => F f vs S1
  | .bi b es, ρ, S => (evalEs F es ρ S).bind fun vs S1 => R.opt ((peeks S1 vs).bind fun ds => (biD b ds).map .t) S1
  | .isi a t, ρ, S => (evalE F a ρ S).bind fun x S1 => R.opt ((peek S1 x).map fun d => .t (.bl (isiD d t))) S1
  | .isit a ts, ρ, S => (evalE F a ρ S).bind fun x S1 => R.opt ((peek S1 x).map fun d => .t (.bl (ts.any fun t => isiD d t))) S1
  | .mth m o es, ρ, S => (evalE F o ρ S).bind fun x S1 => if ((peek S1 x).map (mtOk m)).getD false = false then .bad else (evalEs F es ρ S1).bind fun vs S2 =>
      R.opt ((peek S2 x).bind fun d => (peeks S2 vs).bind fun ds => (mthD m d ds).map .t) S2
  | .lc tg it cs e, ρ, S => (evalI F it ρ S).bind fun src S1 => (lcSrc tg (tests (evalCs F cs)) (evalE F e) src ρ S1).bind fun xs S2 => .ok (.t (.lst xs)) S2
  | .fz f es, ρ, S => (evalEs F es ρ S).bind fun vs S1 => R.opt ((peeks S1 vs).bind fun ds => (fzD f ds).map .t) S1
  | .dvals i _, ρ, S => match ρ[i]? with
    | some (some (.o n)) => match S[n]? with
      | some (.dt kvs) => if kvs.length < sizeLine then .ok (.t (.lst (kvs.map (·.2)))) S else .bad
      | _ => .bad
    | _ => .bad
def evalEs (F : FS) : List ME → Ev → St' → R (List SV)
  | [], _, S => .ok [] S
  | e :: es, ρ, S => (evalE F e ρ S).bind fun v S1 => (evalEs F es ρ S1).bind fun vs S2 => .ok (v :: vs) S2
def evalCs (F : FS) : List ME → List (Ev → St' → R Bool)
  | [] => []
  | c :: cs => (fun ρ S => tru (evalE F c ρ S)) :: evalCs F cs
def evalP (F : FS) : List ME → Ev → St' → R (Option Int)
  | [], _, S => .ok none S
  | e :: _, ρ, S => (evalE F e ρ S).bind fun v S1 => match v with
    | .t (.int i) => .ok (some i) S1
    | _ => .bad
def evalI (F : FS) : IT → Ev → St' → R Src
  | .of e, ρ, S => (evalE F e ρ S).bind fun v S1 => R.opt (srcOf S1 v) S1
  | .range1 e, ρ, S => (evalE F e ρ S).bind fun v S1 => match v with
    | .t (.int n) => if rngOk n then .ok (.fix (rangeD 0 n)) S1 else .bad
    | _ => .bad
  | .range2 a b, ρ, S => (evalE F a ρ S).bind fun v S1 => (evalE F b ρ S1).bind fun u S2 => match v, u with
    | .t (.int i), .t (.int j) => if rngOk i && rngOk j then .ok (.fix (rangeD i j)) S2 else .bad
    | _, _ => .bad
  | .enum e, ρ, S => (evalE F e ρ S).bind fun v S1 => match v with
    | .t (.lst xs) => .ok (.fix (enumD xs)) S1
    | .t (.tup xs) => .ok (.fix (enumD xs)) S1
    | _ => .bad
  | .zip a b, ρ, S => (evalE F a ρ S).bind fun v S1 => (evalE F b ρ S1).bind fun u S2 => match v, u with
    | .t (.lst xs), .t (.lst ys) => .ok (.fix (zipD xs ys)) S2
    | .t (.tup xs), .t (.tup ys) => .ok (.fix (zipD xs ys)) S2
    | _, _ => .bad
end
/-- a list that is new -/
def evalL (F : FS) : ME → Ev → St' → R (List D)
  | .lst es, ρ, S => (evalEs F es ρ S).bind fun vs S1 => match grabs S1 vs with
    | some (ds, S2) => if ds.length ≤ sizeLine then .ok ds S2 else .bad
    | none => .bad
  | .lc tg it cs e, ρ, S => (evalI F it ρ S).bind fun src S1 => lcSrc tg (tests (evalCs F cs)) (evalE F e) src ρ S1
  | .bin .add a b, ρ, S => (evalE F a ρ S).bind fun x S1 => (evalE F b ρ S1).bind fun y S2 =>
      R.opt ((peek S2 x).bind fun d => (peek S2 y).bind fun e => match d, e with
        | .lst xs, .lst ys => if xs.length + ys.length ≤ sizeLine then some (xs ++ ys) else none
        | _, _ => none) S2
  | .bi .list [a], ρ, S => (evalE F a ρ S).bind fun x S1 => R.opt ((peek S1 x).bind fun d => match d with
      | .lst xs => some xs
      | .tup xs => some xs
      | _ => none) S1
  | _, _, _ => .bad

inductive Out where
  | nx (ρ : Ev) (S : St') | rt (v : SV) (S : St') | bk (ρ : Ev) (S : St') | ct (ρ : Ev) (S : St') | exc (c : Nat) (p : List D) (ρ : Ev) (S : St') | bad
def Out.of {α : Type} (ρ : Ev) (r : R α) (k : α → St' → Out) : Out := match r with
  | .ok a S => k a S
  | .exc c p S => .exc c p ρ S
  | .bad => .bad
@[simp] theorem Out.of_ok {α : Type} (ρ : Ev) (a : α) (S : St') (k : α → St' → Out) : Out.of ρ (.ok a S) k = k a S := rfl
@[simp] theorem Out.of_exc {α : Type} (ρ : Ev) (c : Nat) (p : List D) (S : St') (k : α → St' → Out) : Out.of ρ (.exc c p S) k = .exc c p ρ S := rfl
@[simp] theorem Out.of_bad {α : Type} (ρ : Ev) (k : α → St' → Out) : Out.of ρ .bad k = .bad := rfl
def Out.seq (o : Out) (k : Ev → St' → Out) : Out := match o with
  | .nx ρ S => k ρ S
  | o => o
@[simp] theorem Out.seq_nx (ρ : Ev) (S : St') (k : Ev → St' → Out) : (Out.nx ρ S).seq k = k ρ S := rfl
@[simp] theorem Out.seq_rt (v : SV) (S : St') (k : Ev → St' → Out) : (Out.rt v S).seq k = .rt v S := rfl
@[simp] theorem Out.seq_bk (ρ : Ev) (S : St') (k : Ev → St' → Out) : (Out.bk ρ S).seq k = .bk ρ S := rfl
@[simp] theorem Out.seq_ct (ρ : Ev) (S : St') (k : Ev → St' → Out) : (Out.ct ρ S).seq k = .ct ρ S := rfl
@[simp] theorem Out.seq_exc (c : Nat) (p : List D) (ρ : Ev) (S : St') (k : Ev → St' → Out) : (Out.exc c p ρ S).seq k = .exc c p ρ S := rfl
@[simp] theorem Out.seq_bad (k : Ev → St' → Out) : Out.bad.seq k = .bad := rfl
/-- behind a loop's turn -/
def Out.turn (o : Out) (k : Ev → St' → Out) : Out := match o with
  | .nx ρ S => k ρ S
  | .ct ρ S => k ρ S
  | .bk ρ S => .nx ρ S
  | .rt v S => .rt v S
  | .exc c p ρ S => .exc c p ρ S
  | .bad => .bad
@[simp] theorem Out.turn_nx (ρ : Ev) (S : St') (k : Ev → St' → Out) : (Out.nx ρ S).turn k = k ρ S := rfl
@[simp] theorem Out.turn_ct (ρ : Ev) (S : St') (k : Ev → St' → Out) : (Out.ct ρ S).turn k = k ρ S := rfl
@[simp] theorem Out.turn_bk (ρ : Ev) (S : St') (k : Ev → St' → Out) : (Out.bk ρ S).turn k = .nx ρ S := rfl
@[simp] theorem Out.turn_rt (v : SV) (S : St') (k : Ev → St' → Out) : (Out.rt v S).turn k = .rt v S := rfl
@[simp] theorem Out.turn_exc (c : Nat) (p : List D) (ρ : Ev) (S : St') (k : Ev → St' → Out) : (Out.exc c p ρ S).turn k = .exc c p ρ S := rfl
@[simp] theorem Out.turn_bad (k : Ev → St' → Out) : Out.bad.turn k = .bad := rfl

def forFix (tg : Tg) (body : Ev → St' → Out) : List D → Ev → St' → Out
  | [], ρ, S => .nx ρ S
  | d :: ds, ρ, S => match bindTg tg d ρ with
    | none => .bad
    | some ρ' => (body ρ' S).turn fun ρ2 S2 => forFix tg body ds ρ2 S2
def forLive (tg : Tg) (body : Ev → St' → Out) (i : Nat) : Nat → Nat → Ev → St' → Out
  | n, j, ρ, S => match S[i]? with
    | some (.lst ys) => match ys[j]?, n with
      | none, _ => .nx ρ S
      | some _, 0 => .bad
      | some d, n + 1 => match bindTg tg d ρ with
        | none => .bad
        | some ρ' => (body ρ' S).turn fun ρ2 S2 => forLive tg body i n (j + 1) ρ2 S2
    | _ => .bad
def forSrc (tg : Tg) (body : Ev → St' → Out) : Src → Ev → St' → Out
  | .fix xs, ρ, S => forFix tg body xs ρ S
  | .live i, ρ, S => match S[i]? with
    | some (.lst ys) => forLive tg body i ys.length 0 ρ S
    | _ => .bad

/-- the value is put behind what the list k has -/
def appO (ρ : Ev) (k : Nat) (v : SV) (S1 : St') : Out := match grab S1 v with
  | some (d, S2) => match S2[k]? with
    | some (.lst xs) => if xs.length < sizeLine then .nx ρ (S2.set k (.lst (xs ++ [d]))) else .bad
    | _ => .bad
  | none => .bad
/-- in its place, or at the end -/
def putD (kvs : List (List Key × D)) (k : List Key) (v : D) : List (List Key × D) :=
  if (kvs.any fun kv => decide (kv.1 = k)) = true then kvs.map (fun kv => if kv.1 = k then (kv.1, v) else kv) else kvs ++ [(k, v)]
def putO (ρ : Ev) (n : Nat) (d : D) (kv : SV) (S3 : St') : Out := match peek S3 kv with
  | some (.lst xs) => match asKeys xs, S3[n]? with
    | some ks, some (.dt kvs) => if kvs.length < sizeLine then .nx ρ (S3.set n (.dt (putD kvs ks d))) else .bad
    | _, _ => .bad
  | _ => .bad
def setO (ρ : Ev) (n : Nat) (d : D) (kv : SV) (S3 : St') : Out := match kv with
  | .t (.int z) => match S3[n]? with
    | some (.lst xs) => match ixN xs.length z with
      | some j => .nx ρ (S3.set n (.lst (xs.set j d)))
      | none => .bad
    | _ => .bad
  | _ => .bad
def augO (ρ : Ev) (i : Nat) (o : Bn) (x y : SV) (S1 : St') : Out := match x, y with
  | .t (.int a), .t (.int b) => if o = .pow then .bad else match binD o (.int a) (.int b) with
    | some d => .nx (ρ.set i (some (.t d))) S1
    | none => .bad
  | _, _ => .bad
def tpO (ρ : Ev) (is : List Nat) (v : SV) (S1 : St') : Out := match v with
  | .t (.tup ds) => match setTg is ds ρ with
    | some ρ' => .nx ρ' S1
    | none => .bad
  | _ => .bad
mutual
def execS (F : FS) : MS → Ev → St' → Out
  | .doc, ρ, S => .nx ρ S
  | .pass, ρ, S => .nx ρ S
  | .asg (.v i) e, ρ, S => Out.of ρ (evalE F e ρ S) fun v S1 => .nx (ρ.set i (some v)) S1
  | .asg (.tp is) e, ρ, S => Out.of ρ (evalE F e ρ S) fun v S1 => tpO ρ is v S1
  | .par i j a b, ρ, S => Out.of ρ (evalE F a ρ S) fun v S1 => Out.of ρ (evalE F b ρ S1) fun u S2 => .nx ((ρ.set i (some v)).set j (some u)) S2
  | .new i e, ρ, S => Out.of ρ (evalL F e ρ S) fun xs S1 => .nx (ρ.set i (some (.o S1.length))) (S1 ++ [.lst xs])
  | .aug i o e, ρ, S => match ρ[i]? with
    | some (some x) => Out.of ρ (evalE F e ρ S) fun y S1 => augO ρ i o x y S1
    | _ => .bad
  | .app i e, ρ, S => match ρ[i]? with
    | some (some (.o k)) => match S[k]? with
      | some (.lst _) => Out.of ρ (evalE F e ρ S) fun v S1 => appO ρ k v S1
      | _ => .bad
    | _ => .bad
  | .seti i k e, ρ, S => Out.of ρ (evalE F e ρ S) fun v S1 => match grab S1 v with
    | some (d, S2) => match ρ[i]? with
      | some (some (.o n)) => Out.of ρ (evalE F k ρ S2) fun kv S3 => setO ρ n d kv S3
      | _ => .bad
    | none => .bad
  | .newd i, ρ, S => .nx (ρ.set i (some (.o S.length))) (S ++ [.dt []])
  | .putd i k e, ρ, S => Out.of ρ (evalE F e ρ S) fun v S1 => match grab S1 v with
    | some (d, S2) => match ρ[i]? with
      | some (some (.o n)) => Out.of ρ (evalE F k ρ S2) fun kv S3 => putO ρ n d kv S3
      | _ => .bad
    | none => .bad
  | .expr e, ρ, S => Out.of ρ (evalE F e ρ S) fun _ S1 => .nx ρ S1
  | .ret e, ρ, S => Out.of ρ (evalE F e ρ S) fun v S1 => .rt v S1
  | .retN, ρ, S => .rt (.t .non) S
  | .ife c a b, ρ, S => Out.of ρ (tru (evalE F c ρ S)) fun k S1 => if k then execB F a ρ S1 else execB F b ρ S1
  | .for_ tg it body, ρ, S => Out.of ρ (evalI F it ρ S) fun src S1 => forSrc tg (execB F body) src ρ S1
def execB (F : FS) : List MS → Ev → St' → Out
  | [], ρ, S => .nx ρ S
  | s :: ss, ρ, S => (execS F s ρ S).seq fun ρ' S' => execB F ss ρ' S'
end
/-- the end of a call that began with n objects -/
def finish (n : Nat) (v : SV) (S : St') : R SV := match v with
  | .t d => .ok (.t d) (S.take n)
  | .o i => if i < n then .ok (.o i) (S.take n) else match S[i]? with
    | some (.lst xs) => .ok (.t (.lst xs)) (S.take n)
    | _ => .bad
/-- a def: how many parameters, how many slots, its body -/
structure Fn where
  ar : Nat
  sl : Nat
  body : List MS
def callF (F : FS) (f : Fn) (vs : List SV) (S : St') : R SV :=
  if vs.length = f.ar then
    match execB F f.body (vs.map some ++ List.replicate (f.sl - vs.length) none) S with
    | .rt v S' => finish S.length v S'
    | .nx _ S' => .ok (.t .non) (S'.take S.length)
    | .exc c p _ S' => .exc c p (S'.take S.length)
    | _ => .bad
  else .bad
/-- the defs at depth n -/
def FT (T : List Fn) : Nat → FS
  | 0 => fun _ _ _ => .bad
  | n + 1 => fun f vs S => match T[f]? with
    | some fn => callF (FT T n) fn vs S
    | none => .bad
end M

/-! values: what stands for data is read and made -/
namespace M
open PySem PySem.Spec PyProof.Rows L2

section
variable {K : PySem.W.Frag} {H H' : Hp} {m m' : List Addr} {S S' : St'} {N N' : Addr → Prop}

theorem ORep.there {a : Addr} {o : O} (h : ORep K H N a o) : ∃ u, H a = some u := by
  cases o with
  | lst xs => obtain ⟨vs, h1, _⟩ := h; exact ⟨_, h1⟩
  | dt kvs => obtain ⟨vs, h1, _⟩ := h; exact ⟨_, h1⟩
  | dead => exact h
theorem StOk.mem (ok : StOk K H m S) {a : Addr} (h : a ∈ m) : ∃ o, H a = some o := by
  obtain ⟨i, hi⟩ := List.getElem?_of_mem h
  have hl : i < S.length := by
    have := (List.getElem?_eq_some_iff.mp hi).1
    rw [← ok.len]; exact this
  exact (ok.at_ i a _ hi (List.getElem?_eq_getElem hl)).there
theorem Own.mem {a : Addr} (h : Own m S a) : a ∈ m := by
  obtain ⟨i, e, _⟩ := h
  exact List.mem_of_getElem? e
theorem StOk.own (ok : StOk K H m S) {a : Addr} (h : Own m S a) : ∃ o, H a = some o := ok.mem h.mem
theorem StOk.fresh (ok : StOk K H m S) {p : Addr} (h : H p = none) : ¬ Own m S p := fun o => by
  obtain ⟨u, e⟩ := ok.own o
  rw [h] at e; cases e
theorem ORep.mono (f : ∀ a o, H a = some o → ¬ N a → H' a = some o ∧ ¬ N' a) {a : Addr} {o : O} (g : ∀ u, H a = some u → ∃ u', H' a = some u') (g2 : ∀ u, H a = some u → o ≠ .dead → H' a = some u) (h : ORep K H N a o) : ORep K H' N' a o := by
  cases o with
  | lst xs => obtain ⟨vs, h1, h2⟩ := h; exact ⟨vs, g2 _ h1 (fun z => nomatch z), h2.mono f⟩
  | dt kvs => obtain ⟨vs, h1, h2, h4, h3⟩ := h; exact ⟨vs, g2 _ h1 (fun z => nomatch z), h2, h4, h3.mono f⟩
  | dead => obtain ⟨u, e⟩ := h; exact g u e
/-- a new object that is seen -/
theorem StOk.laid (ok : StOk K H m S) {p : Addr} (hp : H p = none) (o : HO) : StOk K (upd H p o) m S ∧ Fr H m S (upd H p o) m S := by
  have k : ∀ a u, H a = some u → upd H p o a = some u := fun a u e => by rw [upd_ne (ne_of_none e hp)]; exact e
  have f : ∀ a u, H a = some u → ¬ Own m S a → upd H p o a = some u ∧ ¬ Own m S a := fun a u e n => ⟨k a u e, n⟩
  exact ⟨⟨ok.len, ok.nd, fun i a u e1 e2 => (ok.at_ i a u e1 e2).mono f (fun u e => ⟨u, k _ _ e⟩) fun u e _ => k _ _ e⟩, f, List.prefix_refl _⟩
theorem own_push {p a : Addr} {o : O} (hl : m.length = S.length) (h : Own (m ++ [p]) (S ++ [o]) a) : Own m S a ∨ a = p := by
  obtain ⟨i, e1, u, e2, ne⟩ := h
  by_cases hi : i < m.length
  · rw [List.getElem?_append_left hi] at e1
    rw [List.getElem?_append_left (by omega)] at e2
    exact .inl ⟨i, e1, u, e2, ne⟩
  · rw [List.getElem?_append_right (by omega)] at e1
    have : i - m.length = 0 := by
      have := (List.getElem?_eq_some_iff.mp e1).1
      simp at this; omega
    rw [this] at e1
    simp at e1
    exact .inr e1.symm
/-- a new object that is changed later -/
theorem StOk.push (ok : StOk K H m S) {p : Addr} (hp : H p = none) {vs : List V} {xs : List D} (hv : Reps K H (Own m S) vs xs) :
    StOk K (upd H p (.lst vs)) (m ++ [p]) (S ++ [.lst xs]) ∧ Fr H m S (upd H p (.lst vs)) (m ++ [p]) (S ++ [.lst xs]) := by
  have k : ∀ a u, H a = some u → upd H p (.lst vs) a = some u := fun a u e => by rw [upd_ne (ne_of_none e hp)]; exact e
  have f : ∀ a u, H a = some u → ¬ Own m S a → upd H p (.lst vs) a = some u ∧ ¬ Own (m ++ [p]) (S ++ [.lst xs]) a := fun a u e n => by
    refine ⟨k a u e, fun z => ?_⟩
    rcases own_push ok.len z with z | z
    · exact n z
    · subst z; rw [hp] at e; cases e
  have np : p ∉ m := fun z => by
    obtain ⟨u, e⟩ := ok.mem z
    rw [hp] at e; cases e
  refine ⟨⟨by simp [ok.len], ?_, fun i a u e1 e2 => ?_⟩, f, ⟨[p], rfl⟩⟩
  · rw [List.nodup_append]
    refine ⟨ok.nd, by simp, fun a ha b hb => ?_⟩
    have : b = p := by simpa using hb
    subst this
    exact fun z => np (z ▸ ha)
  · by_cases hi : i < m.length
    · rw [List.getElem?_append_left hi] at e1
      rw [List.getElem?_append_left (by rw [← ok.len]; exact hi)] at e2
      exact (ok.at_ i a u e1 e2).mono f (fun u e => ⟨u, k _ _ e⟩) fun u e _ => k _ _ e
    · have hl := ok.len
      rw [List.getElem?_append_right (by omega)] at e1 e2
      have h0 : i - m.length = 0 := by
        have := (List.getElem?_eq_some_iff.mp e1).1
        simp at this; omega
      rw [h0] at e1
      rw [← hl, h0] at e2
      simp at e1 e2
      subst e1 e2
      exact ⟨vs, upd_same, hv.mono f⟩
/-- a new object of any kind -/
theorem StOk.pushO (ok : StOk K H m S) {p : Addr} (hp : H p = none) {uo : HO} {oo : O} (hr : (∀ a u, H a = some u → ¬ Own m S a → upd H p uo a = some u ∧ ¬ Own (m ++ [p]) (S ++ [oo]) a) → ORep K (upd H p uo) (Own (m ++ [p]) (S ++ [oo])) p oo) :
    StOk K (upd H p uo) (m ++ [p]) (S ++ [oo]) ∧ Fr H m S (upd H p uo) (m ++ [p]) (S ++ [oo]) := by
  have k : ∀ a u, H a = some u → upd H p uo a = some u := fun a u e => by rw [upd_ne (ne_of_none e hp)]; exact e
  have f : ∀ a u, H a = some u → ¬ Own m S a → upd H p uo a = some u ∧ ¬ Own (m ++ [p]) (S ++ [oo]) a := fun a u e n => by
    refine ⟨k a u e, fun z => ?_⟩
    rcases own_push ok.len z with z | z
    · exact n z
    · subst z; rw [hp] at e; cases e
  have np : p ∉ m := fun z => by
    obtain ⟨u, e⟩ := ok.mem z
    rw [hp] at e; cases e
  refine ⟨⟨by simp [ok.len], ?_, fun i a u e1 e2 => ?_⟩, f, ⟨[p], rfl⟩⟩
  · rw [List.nodup_append]
    refine ⟨ok.nd, by simp, fun a ha b hb => ?_⟩
    have : b = p := by simpa using hb
    subst this
    exact fun z => np (z ▸ ha)
  · by_cases hi : i < m.length
    · rw [List.getElem?_append_left hi] at e1
      rw [List.getElem?_append_left (by rw [← ok.len]; exact hi)] at e2
      exact (ok.at_ i a u e1 e2).mono f (fun u e => ⟨u, k _ _ e⟩) fun u e _ => k _ _ e
    · have hl := ok.len
      rw [List.getElem?_append_right (by omega)] at e1 e2
      have h0 : i - m.length = 0 := by
        have := (List.getElem?_eq_some_iff.mp e1).1
        simp at this; omega
      rw [h0] at e1
      rw [← hl, h0] at e2
      simp at e1 e2
      subst e1 e2
      exact hr f
theorem own_set {i : Nat} {o : O} {a : Addr} (h : Own m (S.set i o) a) (ho : o ≠ .dead → ∃ u, S[i]? = some u ∧ u ≠ .dead) : Own m S a := by
  obtain ⟨j, e1, u, e2, ne⟩ := h
  by_cases hj : i = j
  · subst hj
    by_cases hi : i < S.length
    · rw [List.getElem?_set_self hi] at e2
      cases e2
      obtain ⟨u, e3, ne3⟩ := ho ne
      exact ⟨i, e1, u, e3, ne3⟩
    · rw [List.getElem?_eq_none (by simpa using hi)] at e2; cases e2
  · rw [List.getElem?_set_ne hj] at e2
    exact ⟨j, e1, u, e2, ne⟩
/-- an object changed -/
theorem StOk.write (ok : StOk K H m S) {i : Nat} {a : Addr} {o : O} (hi : m[i]? = some a) (ho : S[i]? = some o) (hd : o ≠ .dead) {vs : List V} {xs : List D} (hv : Reps K H (Own m S) vs xs) :
    StOk K (upd H a (.lst vs)) m (S.set i (.lst xs)) ∧ Fr H m S (upd H a (.lst vs)) m (S.set i (.lst xs)) := by
  have ow : Own m S a := ⟨i, hi, o, ho, hd⟩
  have hl : i < S.length := (List.getElem?_eq_some_iff.mp ho).1
  have nO : ∀ b, ¬ Own m S b → ¬ Own m (S.set i (.lst xs)) b := fun b n z => n (own_set z fun _ => ⟨o, ho, hd⟩)
  have f : ∀ b u, H b = some u → ¬ Own m S b → upd H a (.lst vs) b = some u ∧ ¬ Own m (S.set i (.lst xs)) b := fun b u e n => by
    refine ⟨?_, nO b n⟩
    have nb : b ≠ a := fun z => by subst z; exact n ow
    rw [upd_ne nb]; exact e
  refine ⟨⟨by simp [ok.len], ok.nd, fun j b u e1 e2 => ?_⟩, f, List.prefix_refl _⟩
  by_cases hj : i = j
  · subst hj
    rw [List.getElem?_set_self hl] at e2
    cases e2
    rw [hi] at e1; cases e1
    exact ⟨vs, upd_same, hv.mono f⟩
  · rw [List.getElem?_set_ne hj] at e2
    have nb : b ≠ a := fun z => by
      subst z
      have h1 := (List.getElem?_eq_some_iff.mp hi)
      have h2 := (List.getElem?_eq_some_iff.mp e1)
      exact hj ((List.getElem_inj (h₀ := h1.1) (h₁ := h2.1) ok.nd).mp (h1.2.trans h2.2.symm))
    exact (ok.at_ j b u e1 e2).mono f (fun u e => ⟨u, by rw [upd_ne nb]; exact e⟩) fun u e _ => by rw [upd_ne nb]; exact e
/-- .. of any kind -/
theorem StOk.writeO (ok : StOk K H m S) {i : Nat} {a : Addr} {o : O} (hi : m[i]? = some a) (ho : S[i]? = some o) (hd : o ≠ .dead) {uo : HO} {oo : O} (hr : (∀ b u, H b = some u → ¬ Own m S b → upd H a uo b = some u ∧ ¬ Own m (S.set i oo) b) → ORep K (upd H a uo) (Own m (S.set i oo)) a oo) :
    StOk K (upd H a uo) m (S.set i oo) ∧ Fr H m S (upd H a uo) m (S.set i oo) := by
  have ow : Own m S a := ⟨i, hi, o, ho, hd⟩
  have hl : i < S.length := (List.getElem?_eq_some_iff.mp ho).1
  have nO : ∀ b, ¬ Own m S b → ¬ Own m (S.set i oo) b := fun b n z => n (own_set z fun _ => ⟨o, ho, hd⟩)
  have f : ∀ b u, H b = some u → ¬ Own m S b → upd H a uo b = some u ∧ ¬ Own m (S.set i oo) b := fun b u e n => by
    refine ⟨?_, nO b n⟩
    have nb : b ≠ a := fun z => by subst z; exact n ow
    rw [upd_ne nb]; exact e
  refine ⟨⟨by simp [ok.len], ok.nd, fun j b u e1 e2 => ?_⟩, f, List.prefix_refl _⟩
  by_cases hj : i = j
  · subst hj
    rw [List.getElem?_set_self hl] at e2
    cases e2
    rw [hi] at e1; cases e1
    exact hr f
  · rw [List.getElem?_set_ne hj] at e2
    have nb : b ≠ a := fun z => by
      subst z
      have h1 := (List.getElem?_eq_some_iff.mp hi)
      have h2 := (List.getElem?_eq_some_iff.mp e1)
      exact hj ((List.getElem_inj (h₀ := h1.1) (h₁ := h2.1) ok.nd).mp (h1.2.trans h2.2.symm))
    exact (ok.at_ j b u e1 e2).mono f (fun u e => ⟨u, by rw [upd_ne nb]; exact e⟩) fun u e _ => by rw [upd_ne nb]; exact e
/-- an object given away -/
theorem StOk.kill (ok : StOk K H m S) {i : Nat} {a : Addr} (hi : m[i]? = some a) : StOk K H m (S.set i .dead) ∧ Fr H m S H m (S.set i .dead) := by
  have nO : ∀ b, ¬ Own m S b → ¬ Own m (S.set i .dead) b := fun b n z => n (own_set z fun z => absurd rfl z)
  have f : ∀ b u, H b = some u → ¬ Own m S b → H b = some u ∧ ¬ Own m (S.set i .dead) b := fun b u e n => ⟨e, nO b n⟩
  refine ⟨⟨by simp [ok.len], ok.nd, fun j b u e1 e2 => ?_⟩, f, List.prefix_refl _⟩
  by_cases hj : i = j
  · subst hj
    have hl : i < S.length := by
      have := (List.getElem?_eq_some_iff.mp hi).1
      rw [← ok.len]; exact this
    rw [List.getElem?_set_self hl] at e2
    cases e2
    rw [hi] at e1; cases e1
    exact ok.mem (List.mem_of_getElem? hi)
  · rw [List.getElem?_set_ne hj] at e2
    exact (ok.at_ j b u e1 e2).mono f (fun u e => ⟨u, e⟩) fun u e _ => e

/-! ### read -/
/-- what may be read as data -/
inductive PR (K : PySem.W.Frag) (H : Hp) (N : Addr → Prop) : V → D → Prop
  | of {v : V} {d : D} : Rep K H N v d → PR K H N v d
  | live {a : Addr} {vs : List V} {xs : List D} : H a = some (.lst vs) → Reps K H N vs xs → PR K H N (.ref a) (.lst xs)
theorem StOk.peek (ok : StOk K H m S) {v : V} {x : SV} {d : D} (r : RepS K H m S v x) (e : M.peek S x = some d) : PR K H (Own m S) v d := by
  cases x with
  | t d' => cases e; exact .of r
  | o i =>
    obtain ⟨a, h1, rfl⟩ := r
    simp only [M.peek] at e
    split at e
    · rename_i xs hS
      cases e
      obtain ⟨vs, h2, h3⟩ := ok.at_ i a _ h1 hS
      exact .live h2 h3
    · cases e
theorem PR.lst {v : V} {xs : List D} (h : PR K H N v (.lst xs)) : ∃ a vs, v = .ref a ∧ Rd H a (.lst vs) ∧ Reps K H N vs xs := by
  cases h with
  | of h => cases h with | lst q r => exact ⟨_, _, rfl, q.1, r⟩
  | live h r => exact ⟨_, _, rfl, .inl h, r⟩
theorem PR.tup {v : V} {xs : List D} (h : PR K H N v (.tup xs)) : ∃ a vs, v = .ref a ∧ SqT K H a vs ∧ Reps K H N vs xs := by
  cases h with
  | of h => cases h with | tup q r => exact ⟨_, _, rfl, q.sq, r⟩
theorem PR.rep {v : V} {d : D} (h : PR K H N v d) (hd : ∀ xs, d ≠ .lst xs) : Rep K H N v d := by
  cases h with
  | of h => exact h
  | live h r => exact absurd rfl (hd _)
theorem PR.int {v : V} {i : Int} (h : PR K H N v (.int i)) : v = .int i := by
  cases h with | of h => cases h; rfl
theorem PR.str {v : V} {i : Str} (h : PR K H N v (.str i)) : v = .str i := by
  cases h with | of h => cases h; rfl
theorem PR.bl {v : V} {i : Bool} (h : PR K H N v (.bl i)) : v = .bl i := by
  cases h with | of h => cases h; rfl
theorem PR.non {v : V} (h : PR K H N v .non) : v = .non := by
  cases h with | of h => cases h; rfl
theorem RepS.int {v : V} {i : Int} (h : RepS K H m S v (.t (.int i))) : v = .int i := by
  cases (show Rep K H (Own m S) v (.int i) from h); rfl
mutual
theorem Rep.dp : ∀ {v : V} {d : D}, Rep K H N v d → Dp K H v (toPy d)
  | _, _, .non => by rw [toPy]; exact .non
  | _, _, .bl b => by rw [toPy]; exact .bl b
  | _, _, .int i => by rw [toPy]; exact .int i
  | _, _, .str x => by rw [toPy]; exact .str x
  | _, _, .tup q r => by rw [toPy]; exact .tup q.sq (Reps.dps r)
  | _, _, .lst q r => by rw [toPy]; exact .lst q.sq (Reps.dps r)
theorem Reps.dps : ∀ {v : List V} {d : List D}, Reps K H N v d → DpAll K H v (toPys d)
  | _, _, .nil => by rw [toPys]; exact .nil
  | _, _, .cons q r => by rw [toPys]; exact .cons (Rep.dp q) (Reps.dps r)
end
theorem PR.dp {v : V} {d : D} (h : PR K H N v d) : Dp K H v (toPy d) := by
  cases h with
  | of h => exact h.dp
  | live h r => rw [toPy]; exact .lst (SqL.of h) r.dps
theorem Reps.get {vs : List V} {xs : List D} (h : Reps K H N vs xs) : ∀ {i : Nat} {x : D}, xs[i]? = some x → ∃ v, vs[i]? = some v ∧ Rep K H N v x := by
  induction xs generalizing vs with
  | nil => intro i x e; simp at e
  | cons y ys ih =>
    cases h with
    | cons q r =>
      intro i x e
      cases i with
      | zero => simp at e; subst e; exact ⟨_, rfl, q⟩
      | succ i => simp at e; simpa using ih r e
theorem Reps.drop : ∀ {vs : List V} {xs : List D} (n : Nat), Reps K H N vs xs → Reps K H N (vs.drop n) (xs.drop n)
  | _, _, 0, h => h
  | _, _, n + 1, .nil => .nil
  | _, _, n + 1, .cons _ r => Reps.drop n r
theorem Reps.take : ∀ {vs : List V} {xs : List D} (n : Nat), Reps K H N vs xs → Reps K H N (vs.take n) (xs.take n)
  | _, _, 0, h => by simp; exact .nil
  | _, _, n + 1, .nil => .nil
  | _, _, n + 1, .cons q r => .cons q (Reps.take n r)
theorem Reps.append : ∀ {vs ws : List V} {xs ys : List D}, Reps K H N vs xs → Reps K H N ws ys → Reps K H N (vs ++ ws) (xs ++ ys)
  | _, _, _, _, .nil, h => h
  | _, _, _, _, .cons q r, h => .cons q (Reps.append r h)
theorem Reps.set : ∀ {vs : List V} {xs : List D} {v : V} {x : D} (n : Nat), Reps K H N vs xs → Rep K H N v x → Reps K H N (vs.set n v) (xs.set n x)
  | _, _, _, _, _, .nil, _ => .nil
  | _, _, _, _, 0, .cons _ r, h => .cons h r
  | _, _, _, _, n + 1, .cons q r, h => .cons q (Reps.set n r h)
theorem Reps.rep {vs : List V} {xs : List D} (h : Reps K H N vs xs) : ∀ k : Nat, Reps K H N (List.replicate k vs).flatten (List.replicate k xs).flatten
  | 0 => .nil
  | k + 1 => by
    rw [List.replicate_succ, List.replicate_succ, List.flatten_cons, List.flatten_cons]
    exact h.append (Reps.rep h k)
theorem Reps.cut {vs : List V} {xs : List D} (h : Reps K H N vs xs) (lo hi : Option Int) : Reps K H N (cutV vs lo hi) (cutD xs lo hi) := by
  unfold cutV cutD
  rw [h.length]
  exact (h.drop _).take _
theorem atI_reps {vs : List V} {xs : List D} (h : Reps K H N vs xs) {i : Int} {x : D} (e : atI xs i = some x) : ∃ v, atI vs i = some v ∧ Rep K H N v x := by
  unfold atI at e ⊢
  rw [h.length]
  cases q : ixN xs.length i with
  | none => rw [q] at e; cases e
  | some j => rw [q] at e; exact h.get e
theorem Reps.bls : ∀ {vs : List V} {xs : List D} {bs : List Bool}, Reps K H N vs xs → asBls xs = some bs → vs = bs.map V.bl
  | _, _, bs, .nil, e => by unfold asBls at e; cases e; rfl
  | _, _ :: ds, bs, .cons q r, e => by
    cases q with
    | bl b =>
      unfold asBls at e
      cases h : asBls ds with
      | none => rw [h] at e; cases e
      | some bs' => rw [h] at e; cases e; rw [List.map_cons, Reps.bls r h]
    | _ => unfold asBls at e; cases e
theorem Reps.ints : ∀ {vs : List V} {xs : List D} {bs : List Int}, Reps K H N vs xs → asInts xs = some bs → vs = bs.map V.int
  | _, _, bs, .nil, e => by unfold asInts at e; cases e; rfl
  | _, _ :: ds, bs, .cons q r, e => by
    cases q with
    | int b =>
      unfold asInts at e
      cases h : asInts ds with
      | none => rw [h] at e; cases e
      | some bs' => rw [h] at e; cases e; rw [List.map_cons, Reps.ints r h]
    | _ => unfold asInts at e; cases e
theorem reps_strs (ss : List Str) : Reps K H N (ss.map V.str) (ss.map D.str) := by
  induction ss with
  | nil => exact .nil
  | cons s r ih => exact .cons (.str s) ih
/-! ### new data -/
theorem rep_tup_new (ok : StOk K H m S) {p : Addr} (hp : H p = none) {vs : List V} {xs : List D} (hv : Reps K H (Own m S) vs xs) : Rep K (upd H p (.tup vs)) (Own m S) (.ref p) (.tup xs) :=
  .tup (.inl ⟨.inl upd_same, ok.fresh hp⟩) (hv.mono (ok.laid hp (.tup vs)).2.1)
theorem rep_lst_new (ok : StOk K H m S) {p : Addr} (hp : H p = none) {vs : List V} {xs : List D} (hv : Reps K H (Own m S) vs xs) : Rep K (upd H p (.lst vs)) (Own m S) (.ref p) (.lst xs) :=
  .lst ⟨.inl upd_same, ok.fresh hp⟩ (hv.mono (ok.laid hp (.lst vs)).2.1)
theorem StOk.grab (ok : StOk K H m S) {v : V} {x : SV} {d : D} {S1 : St'} (r : RepS K H m S v x) (e : M.grab S x = some (d, S1)) : StOk K H m S1 ∧ Fr H m S H m S1 ∧ Rep K H (Own m S1) v d := by
  cases x with
  | t d' => cases e; exact ⟨ok, .refl, r⟩
  | o i =>
    obtain ⟨a, h1, rfl⟩ := r
    simp only [M.grab] at e
    split at e
    · rename_i xs hS
      cases e
      obtain ⟨vs, h2, h3⟩ := ok.at_ i a _ h1 hS
      obtain ⟨k1, k2⟩ := ok.kill h1
      refine ⟨k1, k2, .lst ⟨.inl h2, fun z => ?_⟩ (h3.mono k2.1)⟩
      obtain ⟨j, e1, u, e2, ne⟩ := z
      have g1 := (List.getElem?_eq_some_iff.mp h1)
      have g2 := (List.getElem?_eq_some_iff.mp e1)
      have : i = j := (List.getElem_inj (h₀ := g1.1) (h₁ := g2.1) ok.nd).mp (g1.2.trans g2.2.symm)
      subst this
      rw [List.getElem?_set_self (List.getElem?_eq_some_iff.mp hS).1] at e2
      cases e2
      exact ne rfl
    · cases e
theorem StOk.grabs (ok : StOk K H m S) : ∀ {vs : List V} {xs : List SV} {ds : List D} {S1 : St'}, RepSs K H m S vs xs → M.grabs S xs = some (ds, S1) → StOk K H m S1 ∧ Fr H m S H m S1 ∧ Reps K H (Own m S1) vs ds := by
  intro vs xs
  induction xs generalizing vs S with
  | nil => intro ds S1 r e; cases r; unfold M.grabs at e; cases e; exact ⟨ok, .refl, .nil⟩
  | cons x xs ih =>
    intro ds S1 r e
    cases r with
    | cons q r =>
      unfold M.grabs at e
      split at e
      · rename_i d S2 hg
        obtain ⟨k1, k2, k3⟩ := ok.grab q hg
        cases h : M.grabs S2 xs with
        | none => rw [h] at e; cases e
        | some p =>
          obtain ⟨ds', S3⟩ := p
          rw [h] at e; cases e
          obtain ⟨j1, j2, j3⟩ := ih k1 (r.mono k2) h
          exact ⟨j1, k2.trans j2, .cons (k3.mono j2.1) j3⟩
      · cases e
inductive PRs (K : PySem.W.Frag) (H : Hp) (N : Addr → Prop) : List V → List D → Prop
  | nil : PRs K H N [] []
  | cons {v : V} {vs : List V} {d : D} {ds : List D} : PR K H N v d → PRs K H N vs ds → PRs K H N (v :: vs) (d :: ds)
theorem StOk.peeks (ok : StOk K H m S) : ∀ {vs : List V} {xs : List SV} {ds : List D}, RepSs K H m S vs xs → M.peeks S xs = some ds → PRs K H (Own m S) vs ds := by
  intro vs xs
  induction xs generalizing vs with
  | nil => intro ds r e; cases r; unfold M.peeks at e; cases e; exact .nil
  | cons x xs ih =>
    intro ds r e
    cases r with
    | cons q r =>
      unfold M.peeks at e
      split at e
      · rename_i d hg
        cases h : M.peeks S xs with
        | none => rw [h] at e; cases e
        | some p => rw [h] at e; cases e; exact .cons (ok.peek q hg) (ih r h)
      · cases e
end
end M

/-! operations on values that stand for data -/
namespace M
open PySem PySem.Spec PyProof.Rows L2

def opOf : Bn → Operator
  | .add => .Add | .sub => .Sub | .mul => .Mult | .fdiv => .FloorDiv | .mod => .Mod | .pow => .Pow
def cmOf : Cm → CmpOp
  | .eq => .Eq | .ne => .NotEq | .lt => .Lt | .le => .LtE | .gt => .Gt | .ge => .GtE | .isin => .In | .notin => .NotIn | .is_ => .Is | .isnot => .IsNot

section
variable {X : Cx} {pins : List (Addr × Obj)} {σ : L2.St} {H : Hp} {s : Shared}
theorem lstR (I : Inv X pins σ H s) {l : Addr} {xs : List V} (hH : Rd H l (.lst xs)) : xs.length ≤ sizeLine ∧ ∃ (its : List Value) (n : Nat), Vals xs its ∧ xs.length = its.length ∧ s.heap.get? l = some { cls := .type "list", data := .seq its.toArray n } := by
  obtain ⟨z, its, n, r, e⟩ := hH.ok I.hok
  exact ⟨z, its, n, r, r.length, e⟩
end
section
variable {X : Cx}
/-- lists that may be read -/
theorem op_catR : OpR X (binaryOp .Add) (fun x y H Q => ∃ l b xs zs, x = .ref l ∧ y = .ref b ∧ Rd H l (.lst xs) ∧ Rd H b (.lst zs) ∧ xs.length + zs.length ≤ sizeLine ∧ ∀ p, H p = none → Q (.ref p) (upd H p (.lst (xs ++ zs)))) := by
  intro pins s σ H x y v u Q I rx ry h
  obtain ⟨l, b, xs, zs, rfl, rfl, hH, hB, hz, q⟩ := h
  cases rx
  cases ry
  obtain ⟨z, its, n, r, hl, e⟩ := lstR I hH
  obtain ⟨z2, its2, n2, r2, hl2, e2⟩ := lstR I hB
  refine PySem.P.add_list e e2 ?_ (by rw [List.size_toArray, List.size_toArray]; omega)
  have ea : its.toArray ++ its2.toArray = (its ++ its2).toArray := by simp
  rw [ea]
  exact ⟨.ref _, _, I.lnew (t' := s.toks) (r.append r2) (by rw [List.length_append]; omega), rfl, q _ I.fresh⟩
theorem iop_mulW' {X : Cx} : OpR X (inplaceOp .Mult) (rI CMulW fun i j => .int (i * j)) := opI fun _ _ _ _ _ _ _ hc q => imul_int q hc.ok
theorem op_repR : OpR X (binaryOp .Mult) (fun x y H Q => ∃ l k xs, x = .ref l ∧ y = .int k ∧ Rd H l (.lst xs) ∧ -(2 ^ 63) ≤ k ∧ k < 2 ^ 63 ∧ xs.length * k.toNat ≤ sizeLine ∧
    ∀ p, H p = none → Q (.ref p) (upd H p (.lst (List.replicate k.toNat xs).flatten))) := by
  intro pins s σ H x y v u Q I rx ry h
  obtain ⟨l, k, xs, rfl, rfl, hH, h1, h2, hz, q⟩ := h
  cases rx
  obtain ⟨t, rfl⟩ := ry
  obtain ⟨z, its, n, r, hl, e⟩ := lstR I hH
  have hlen : its.toArray.size * k.toNat ≤ sizeLine := by rw [List.size_toArray, ← hl]; exact hz
  have hcap : ¬ its.toArray.size * k.toNat > (2 ^ 63 - 1) / 8 := by
    have : (sizeLine : Nat) ≤ (2 ^ 63 - 1) / 8 := by decide
    omega
  have hfit : ¬ (!Builtin.List.listFitsIndex k) = true := by
    rw [fitsIndex_both h1 h2]
    exact Bool.false_ne_true
  have hlong : ¬ Builtin.List.listTooLong (its.toArray.size * k.toNat) = true := by
    rw [notLongL hlen]
    exact Bool.false_ne_true
  have hnew : List.foldl (fun x1 x2 => x1 ++ x2) #[] (List.replicate (if its.toArray.isEmpty = true then 0 else k.toNat) its.toArray) = (List.replicate k.toNat its).flatten.toArray := by
    have f0 : ∀ m : Nat, List.foldl (fun x1 x2 => x1 ++ x2) #[] (List.replicate m its.toArray) = (List.replicate m its).flatten.toArray := fun m => by
      have := foldl_rep its m []
      rw [List.nil_append] at this
      exact this
    rw [f0]
    cases its with
    | nil => simp
    | cons a r' => rw [if_neg (by simp)]
  refine wpAny_binaryOp_repeat_ref (T := "list") (U := "int") (by decide) ⟨_, e, rfl⟩ (fun s' => typeIs_int s' k t) noFill_list_mul F.fills_int_mul F.slot_int_rmul repeat_list F.slot_int_index.lookup
    (call_meets F.slot_int_rmul (typeIs_int s k t) F.entry_int_rmul (F.args_int_rmul_2 _ _) (int___rmul___int_list k t l its.toArray n)
      ⟨e, rfl, ⟨_, e, rfl⟩, call_meets F.slot_list_mul ⟨_, e, rfl⟩ F.entry_list_mul (F.args_list_mul_2 _ _) (AutoListH.list___mul___list_int_3 l its.toArray n k t hfit hcap hlong) ⟨e, ?_⟩⟩)
  rw [hnew]
  exact ⟨.ref _, _, I.lnew (t' := s.toks) (r.rep k.toNat) (by rw [PyProof.Rows.lm_len_rep_flat, Nat.mul_comm]; exact hz), rfl, q _ I.fresh⟩

/-- what follows an operation that makes data r of what may be read -/
def Fol (K : PySem.W.Frag) (H : Hp) (m : List Addr) (S : St') (r : D) (Q : VK) : Prop := ∀ H' w, StOk K H' m S → Fr H m S H' m S → Rep K H' (Own m S) w r → Q w H'
theorem Fol.here {K : PySem.W.Frag} {H : Hp} {m : List Addr} {S : St'} {r : D} {Q : VK} (f : Fol K H m S r Q) (ok : StOk K H m S) {w : V} (h : Rep K H (Own m S) w r) : Q w H := f H w ok .refl h
theorem Fol.tup {K : PySem.W.Frag} {H : Hp} {m : List Addr} {S : St'} {ds : List D} {Q : VK} (f : Fol K H m S (.tup ds) Q) (ok : StOk K H m S) {vs : List V} (h : Reps K H (Own m S) vs ds) (p : Addr) (hp : H p = none) : Q (.ref p) (upd H p (.tup vs)) :=
  f _ _ (ok.laid hp _).1 (ok.laid hp _).2 (rep_tup_new ok hp h)
theorem Fol.lst {K : PySem.W.Frag} {H : Hp} {m : List Addr} {S : St'} {ds : List D} {Q : VK} (f : Fol K H m S (.lst ds) Q) (ok : StOk K H m S) {vs : List V} (h : Reps K H (Own m S) vs ds) (p : Addr) (hp : H p = none) : Q (.ref p) (upd H p (.lst vs)) :=
  f _ _ (ok.laid hp _).1 (ok.laid hp _).2 (rep_lst_new ok hp h)

/-- a binary operation on data -/
def rBin (K : PySem.W.Frag) (o : Bn) : R2 := fun v u H Q => ∃ m S d e r, StOk K H m S ∧ PR K H (Own m S) v d ∧ PR K H (Own m S) u e ∧ binD o d e = some r ∧ Fol K H m S r Q
theorem or_bin (o : Bn) : OpR X (binaryOp (opOf o)) (rBin X.K o) := by
  intro pins s σ H x y v u Q I rx ry h
  obtain ⟨m, S, d, e, r, ok, hx, hy, hr, f⟩ := h
  unfold binD at hr
  split at hr
  · cases hx.int; cases hy.int; cases hr
    exact op_add pins s σ H _ _ v u Q I rx ry ⟨_, _, rfl, rfl, f.here ok (.int _)⟩
  · cases hx.str; cases hy.str
    split at hr
    · cases hr
      exact op_add_str pins s σ H _ _ v u Q I rx ry ⟨_, _, rfl, rfl, by assumption, f.here ok (.str _)⟩
    · cases hr
  · obtain ⟨a, vs, rfl, h1, h2⟩ := hx.lst
    obtain ⟨b, ws, rfl, h3, h4⟩ := hy.lst
    split at hr
    · cases hr
      exact op_catR pins s σ H _ _ v u Q I rx ry ⟨_, _, _, _, rfl, rfl, h1, h3, by rw [h2.length, h4.length]; assumption, f.lst ok (h2.append h4)⟩
    · cases hr
  · obtain ⟨a, vs, rfl, h1, h2⟩ := hx.tup
    obtain ⟨b, ws, rfl, h3, h4⟩ := hy.tup
    split at hr
    · cases hr
      refine op_catA pins s σ H _ _ v u Q I rx ry ⟨_, _, _, _, rfl, rfl, h1, h3, by rw [h2.length, h4.length]; assumption, fun z => ?_, fun _ z => ?_, fun _ _ => f.tup ok (h2.append h4)⟩
      · subst z; cases h2
        exact f.here ok (hy.rep fun _ z => nomatch z)
      · subst z; cases h4
        rw [List.append_nil] at f
        exact f.here ok (hx.rep fun _ z => nomatch z)
    · cases hr
  · cases hx.int; cases hy.int; cases hr
    exact op_sub pins s σ H _ _ v u Q I rx ry ⟨_, _, rfl, rfl, f.here ok (.int _)⟩
  · cases hx.int; cases hy.int
    split at hr
    · rename_i i j hc
      cases hr
      rcases hc with z | z | z
      · exact op_mul pins s σ H _ _ v u Q I rx ry ⟨_, _, rfl, rfl, .inl (by omega), f.here ok (.int _)⟩
      · exact op_mul pins s σ H _ _ v u Q I rx ry ⟨_, _, rfl, rfl, .inr (by omega), f.here ok (.int _)⟩
      · exact op_mulW pins s σ H _ _ v u Q I rx ry ⟨_, _, rfl, rfl, z, f.here ok (.int _)⟩
    · cases hr
  · obtain ⟨a, vs, rfl, h1, h2⟩ := hx.lst
    cases hy.int
    split at hr
    · rename_i k hc
      cases hr
      exact op_repR pins s σ H _ _ v u Q I rx ry ⟨_, _, _, rfl, rfl, h1, hc.1, hc.2.1, by rw [h2.length]; exact hc.2.2, f.lst ok (h2.rep _)⟩
    · cases hr
  · cases hx.int; cases hy.int
    split at hr
    · cases hr
      exact op_fdiv pins s σ H _ _ v u Q I rx ry ⟨_, _, rfl, rfl, by assumption, f.here ok (.int _)⟩
    · cases hr
  · cases hx.int; cases hy.int
    split at hr
    · cases hr
      exact op_mod pins s σ H _ _ v u Q I rx ry ⟨_, _, rfl, rfl, by assumption, f.here ok (.int _)⟩
    · cases hr
  · cases hx.int; cases hy.int
    split at hr
    · cases hr
      exact op_pow pins s σ H _ _ v u Q I rx ry ⟨_, _, rfl, rfl, by assumption, f.here ok (.int _)⟩
    · cases hr
  · cases hr
/-- in place, on ints -/
theorem ip_bin (o : Bn) (ho : o ≠ .pow) : PIp X (opOf o) (fun x y H Q => ∃ i j r, x = .int i ∧ y = .int j ∧ binD o (.int i) (.int j) = some (.int r) ∧ Q (.int r) H) := by
  intro pins s σ H x y v u Q I rx ry h
  obtain ⟨i, j, r, rfl, rfl, hr, q⟩ := h
  cases o with
  | add => cases hr; exact iop_add pins s σ H _ _ v u Q I rx ry ⟨_, _, rfl, rfl, q⟩
  | sub => cases hr; exact iop_sub pins s σ H _ _ v u Q I rx ry ⟨_, _, rfl, rfl, q⟩
  | mul =>
    unfold binD at hr
    simp only at hr
    split at hr
    · rename_i hc
      cases hr
      rcases hc with z | z | z
      · exact iop_mul pins s σ H _ _ v u Q I rx ry ⟨_, _, rfl, rfl, .inl (by omega), q⟩
      · exact iop_mul pins s σ H _ _ v u Q I rx ry ⟨_, _, rfl, rfl, .inr (by omega), q⟩
      · exact iop_mulW' pins s σ H _ _ v u Q I rx ry ⟨_, _, rfl, rfl, z, q⟩
    · cases hr
  | fdiv =>
    unfold binD at hr
    simp only at hr
    split at hr
    · cases hr; exact iop_fdiv pins s σ H _ _ v u Q I rx ry ⟨_, _, rfl, rfl, by assumption, q⟩
    · cases hr
  | mod =>
    unfold binD at hr
    simp only at hr
    split at hr
    · cases hr; exact iop_mod pins s σ H _ _ v u Q I rx ry ⟨_, _, rfl, rfl, by assumption, q⟩
    · cases hr
  | pow => exact absurd rfl ho

/-! ### comparisons -/
mutual
theorem eqv_deq : ∀ a b : D, (toPy a).canLay0 = true → (toPy b).canLay0 = true → PyData.eqv (toPy a) (toPy b) = deq a b
  | .non, b, _, hb => by cases b <;> simp_all [toPy, PyData.eqv, deq, PyData.canLay0]
  | .bl x, b, _, hb => by cases b <;> simp_all [toPy, PyData.eqv, deq, PyData.canLay0]
  | .int x, b, _, hb => by cases b <;> simp_all [toPy, PyData.eqv, deq, PyData.canLay0]
  | .str x, b, _, hb => by cases b <;> simp_all [toPy, PyData.eqv, deq, PyData.canLay0]
  | .tup xs, b, ha, hb => by
    cases b with
    | tup ys =>
      rw [toPy, toPy, PyData.eqv, deq]
      exact eqv_deqs xs ys (by rw [toPy, PyData.canLay0] at ha; exact ha) (by rw [toPy, PyData.canLay0] at hb; exact hb)
    | _ => simp_all [toPy, PyData.eqv, deq, PyData.canLay0]
  | .lst xs, b, ha, hb => by
    cases b with
    | lst ys =>
      rw [toPy, toPy, PyData.eqv, deq]
      exact eqv_deqs xs ys (by rw [toPy, PyData.canLay0] at ha; exact ha) (by rw [toPy, PyData.canLay0] at hb; exact hb)
    | _ => simp_all [toPy, PyData.eqv, deq, PyData.canLay0]
  | .dct _, _, h, _ => by simp [toPy, PyData.canLay0] at h
  | .ins _ _, _, h, _ => by simp [toPy, PyData.canLay0] at h
theorem eqv_deqs : ∀ a b : List D, PyData.canLayAll0 (toPys a) = true → PyData.canLayAll0 (toPys b) = true → PyData.eqvAll (toPys a) (toPys b) = deqs a b
  | [], [], _, _ => by rw [toPys, PyData.eqvAll, deqs]
  | [], _ :: _, _, _ => by simp [toPys, PyData.eqvAll, deqs]
  | _ :: _, [], _, _ => by simp [toPys, PyData.eqvAll, deqs]
  | x :: xs, y :: ys, ha, hb => by
    rw [toPys, PyData.canLayAll0, Bool.and_eq_true] at ha hb
    rw [toPys, toPys, PyData.eqvAll, deqs, eqv_deq x y ha.1 hb.1, eqv_deqs xs ys ha.2 hb.2]
end
theorem okD_lay {d : D} (h : okD d = true) : (toPy d).canLay0 = true := SeqAt.canLay_of_shaped h
theorem lay_mem : ∀ {xs : List D}, PyData.canLayAll0 (toPys xs) = true → ∀ x ∈ xs, (toPy x).canLay0 = true
  | x :: xs, h, y, hy => by
    rw [toPys, PyData.canLayAll0, Bool.and_eq_true] at h
    rcases List.mem_cons.mp hy with rfl | hy
    · exact h.1
    · exact lay_mem h.2 y hy
theorem any_eqv {ys : List D} {x : D} (hy : PyData.canLayAll0 (toPys ys) = true) (hx : (toPy x).canLay0 = true) : ((toPys ys).any fun z => PyData.eqv z (toPy x)) = ys.any fun z => deq z x := by
  rw [toPys_eq, List.any_map]
  have := lay_mem hy
  induction ys with
  | nil => rfl
  | cons y ys ih =>
    rw [List.any_cons, List.any_cons]
    rw [toPys, PyData.canLayAll0, Bool.and_eq_true] at hy
    rw [ih hy.2 (fun z hz => this z (List.mem_cons_of_mem _ hz))]
    simp only [Function.comp]
    rw [eqv_deq y x hy.1 hx]

theorem strIn_eq (i j : Str) : (!(Builtin.Str.occurrences j i 0 j.length 1).isEmpty) = strIn i j := by
  unfold strIn
  split
  · rename_i c hc
    have e : i = ⟨#[c]⟩ := by
      have : i.cps = #[c] := Array.toList_inj.mp hc
      cases i; simp at this; rw [this]
    rw [e]
    exact PySem.StrLaws.found_one j c
  · rfl

def rCmp (K : PySem.W.Frag) (o : Cm) : R2 := fun v u H Q => ∃ m S d e b, StOk K H m S ∧ PR K H (Own m S) v d ∧ PR K H (Own m S) u e ∧ cmpD o d e = some b ∧ Q (.bl b) H
theorem eq_scal {H : Hp} {K : PySem.W.Frag} {N : Addr → Prop} {x y : V} {d e : D} (hx : PR K H N x d) (hy : PR K H N y e) (h : scalD d e = true) : scal x y = true ∧ decide (x = y) = deq d e := by
  unfold scalD at h
  split at h
  · cases hx.int; cases hy.int; exact ⟨rfl, by rw [dec_int]; rfl⟩
  · cases hx.str; cases hy.str; exact ⟨rfl, by rw [dec_str]; rfl⟩
  · cases hx.bl; cases hy.bl; exact ⟨rfl, by rw [dec_bl]; rfl⟩
  · cases h
theorem or_cmp (o : Cm) (hu : X.A.units + 65 < cLine) : OpR X (compareOp (cmOf o)) (rCmp X.K o) := by
  intro pins s σ H x y v u Q I rx ry h
  obtain ⟨m, S, d, e, b, ok, hx, hy, hr, q⟩ := h
  unfold cmpD at hr
  split at hr
  · -- eq
    split at hr
    · rename_i hc
      cases hr
      by_cases hs : scalD d e = true
      · obtain ⟨h1, h2⟩ := eq_scal hx hy hs
        exact op_eq pins s σ H _ _ v u Q I rx ry ⟨h1, by rw [h2]; exact q⟩
      · have hc : okD d = true ∧ okD e = true := by simpa [hs] using hc
        exact op_eqD (by omega) pins s σ H _ _ v u Q I rx ry ⟨_, _, hx.dp, hy.dp, hc.1, hc.2, by rw [eqv_deq _ _ (okD_lay hc.1) (okD_lay hc.2)]; exact q⟩
    · cases hr
  · split at hr
    · rename_i hc
      cases hr
      by_cases hs : scalD d e = true
      · obtain ⟨h1, h2⟩ := eq_scal hx hy hs
        exact op_ne pins s σ H _ _ v u Q I rx ry ⟨h1, by rw [h2]; exact q⟩
      · have hc : okD d = true ∧ okD e = true := by simpa [hs] using hc
        exact op_neD (by omega) pins s σ H _ _ v u Q I rx ry ⟨_, _, hx.dp, hy.dp, hc.1, hc.2, by rw [eqv_deq _ _ (okD_lay hc.1) (okD_lay hc.2)]; exact q⟩
    · cases hr
  · cases hx.int; cases hy.int; cases hr
    exact op_lt pins s σ H _ _ v u Q I rx ry ⟨_, _, rfl, rfl, q⟩
  · cases hx.int; cases hy.int; cases hr
    exact op_le pins s σ H _ _ v u Q I rx ry ⟨_, _, rfl, rfl, q⟩
  · cases hx.int; cases hy.int; cases hr
    exact op_gt pins s σ H _ _ v u Q I rx ry ⟨_, _, rfl, rfl, q⟩
  · cases hx.int; cases hy.int; cases hr
    exact op_ge pins s σ H _ _ v u Q I rx ry ⟨_, _, rfl, rfl, q⟩
  · cases hx.str; cases hy.str; cases hr
    exact op_lt_str pins s σ H _ _ v u Q I rx ry ⟨_, _, rfl, rfl, q⟩
  · split at hr
    · rename_i xs ys hc
      cases hr
      have hc : PySem.W.alike (toPy (.tup xs)) (toPy (.tup ys)) = true ∧ (toPy (.tup xs)).depth ≤ 64 := by simpa using hc
      obtain ⟨as, r1⟩ := Dp.reads I _ x v hx.dp rx
      obtain ⟨bs, r2⟩ := Dp.reads I _ y u hy.dp ry
      exact PySem.W.rcLt_alike _ _ X.A s v u as bs r1 r2 hc.1 (by rw [toPy]; exact fun z => nomatch z) (by have := Nat.min_le_left (toPy (.tup xs)).depth (toPy (.tup ys)).depth; omega) _ _ _ _ ⟨.bl _, H, I, rfl, q⟩
    · cases hr
  · -- in
    unfold inD at hr
    split at hr
    · split at hr
      · cases hx.str; cases hy.str; cases hr
        exact op_in_str pins s σ H _ _ v u Q I rx ry ⟨_, _, rfl, rfl, by rw [strIn_eq]; exact q⟩
      · cases hr
    · split at hr
      · rename_i ys hc
        cases hr
        have hc := Bool.and_eq_true_iff.mp hc
        obtain ⟨as, r1⟩ := Dp.reads I _ x v hx.dp rx
        obtain ⟨bs, r2⟩ := Dp.reads I _ y u hy.dp ry
        rw [toPy] at r2
        have l2 := okD_lay hc.2
        rw [toPy, PyData.canLay0] at l2
        exact SeqAt.in_list_reads r2 r1 l2 (okD_lay hc.1) (room_in_shaped hc.1 hu) ⟨.bl _, H, I, rfl, by rw [any_eqv l2 (okD_lay hc.1)]; exact q⟩
      · cases hr
    · split at hr
      · rename_i ys hc
        cases hr
        have hc := Bool.and_eq_true_iff.mp hc
        obtain ⟨as, r1⟩ := Dp.reads I _ x v hx.dp rx
        obtain ⟨bs, r2⟩ := Dp.reads I _ y u hy.dp ry
        rw [toPy] at r2
        have l2 := okD_lay hc.2
        rw [toPy, PyData.canLay0] at l2
        exact SeqAt.in_tuple_reads r2 r1 l2 (okD_lay hc.1) (room_in_shaped hc.1 hu) ⟨.bl _, H, I, rfl, by rw [any_eqv l2 (okD_lay hc.1)]; exact q⟩
      · cases hr
    · cases hr
  · -- not in
    cases hn : inD d e with
    | none => rw [hn] at hr; cases hr
    | some k =>
    rw [hn] at hr
    cases hr
    unfold inD at hn
    split at hn
    · split at hn
      · cases hx.str; cases hy.str; cases hn
        exact op_notin_str pins s σ H _ _ v u Q I rx ry ⟨_, _, rfl, rfl, by rw [strIn_eq]; exact q⟩
      · cases hn
    · split at hn
      · rename_i ys hc
        cases hn
        have hc := Bool.and_eq_true_iff.mp hc
        obtain ⟨as, r1⟩ := Dp.reads I _ x v hx.dp rx
        obtain ⟨bs, r2⟩ := Dp.reads I _ y u hy.dp ry
        rw [toPy] at r2
        have l2 := okD_lay hc.2
        rw [toPy, PyData.canLay0] at l2
        exact SeqAt.notIn_list_reads r2 r1 l2 (okD_lay hc.1) (room_in_shaped hc.1 hu) ⟨.bl _, H, I, rfl, by rw [any_eqv l2 (okD_lay hc.1)]; exact q⟩
      · cases hn
    · split at hn
      · rename_i ys hc
        cases hn
        have hc := Bool.and_eq_true_iff.mp hc
        obtain ⟨as, r1⟩ := Dp.reads I _ x v hx.dp rx
        obtain ⟨bs, r2⟩ := Dp.reads I _ y u hy.dp ry
        rw [toPy] at r2
        have l2 := okD_lay hc.2
        rw [toPy, PyData.canLay0] at l2
        exact SeqAt.notIn_tuple_reads r2 r1 l2 (okD_lay hc.1) (room_in_shaped hc.1 hu) ⟨.bl _, H, I, rfl, by rw [any_eqv l2 (okD_lay hc.1)]; exact q⟩
      · cases hn
    · cases hn
  · -- is
    unfold isD at hr
    split at hr
    · cases hx.non; cases hy.non; cases hr
      exact op_isN pins s σ H _ _ v u Q I rx ry ⟨rfl, q⟩
    · cases hx.bl; cases hy.non; cases hr; exact op_isN pins s σ H _ _ v u Q I rx ry ⟨rfl, q⟩
    · cases hx.int; cases hy.non; cases hr; exact op_isN pins s σ H _ _ v u Q I rx ry ⟨rfl, q⟩
    · cases hx.str; cases hy.non; cases hr; exact op_isN pins s σ H _ _ v u Q I rx ry ⟨rfl, q⟩
    · obtain ⟨a, vs, rfl, _, _⟩ := hx.tup; cases hy.non; cases hr; exact op_isN pins s σ H _ _ v u Q I rx ry ⟨rfl, q⟩
    · obtain ⟨a, vs, rfl, _, _⟩ := hx.lst; cases hy.non; cases hr; exact op_isN pins s σ H _ _ v u Q I rx ry ⟨rfl, q⟩
    · cases hx.bl; cases hy.bl; cases hr
      exact op_is_bl pins s σ H _ _ v u Q I rx ry ⟨_, _, rfl, rfl, by rw [Bool.beq_eq_decide_eq] at q; exact q⟩
    · cases hx.non; cases hy.bl; cases hr
      cases rx; cases ry
      exact wpAny_is_other rfl (fun z => nomatch z) ⟨.bl false, H, I, rfl, q⟩
    · cases hr
  · -- is not
    cases hn : isD d e with
    | none => rw [hn] at hr; cases hr
    | some k =>
    rw [hn] at hr
    cases hr
    unfold isD at hn
    split at hn
    · cases hx.non; cases hy.non; cases hn
      exact op_notN pins s σ H _ _ v u Q I rx ry ⟨rfl, q⟩
    · cases hx.bl; cases hy.non; cases hn; exact op_notN pins s σ H _ _ v u Q I rx ry ⟨rfl, q⟩
    · cases hx.int; cases hy.non; cases hn; exact op_notN pins s σ H _ _ v u Q I rx ry ⟨rfl, q⟩
    · cases hx.str; cases hy.non; cases hn; exact op_notN pins s σ H _ _ v u Q I rx ry ⟨rfl, q⟩
    · obtain ⟨a, vs, rfl, _, _⟩ := hx.tup; cases hy.non; cases hn; exact op_notN pins s σ H _ _ v u Q I rx ry ⟨rfl, q⟩
    · obtain ⟨a, vs, rfl, _, _⟩ := hx.lst; cases hy.non; cases hn; exact op_notN pins s σ H _ _ v u Q I rx ry ⟨rfl, q⟩
    · cases hx.bl; cases hy.bl; cases hn
      exact op_isnot_bl pins s σ H _ _ v u Q I rx ry ⟨_, _, rfl, rfl, by rw [Bool.beq_eq_decide_eq] at q; exact q⟩
    · cases hx.non; cases hy.bl; cases hn
      cases rx; cases ry
      exact wpAny_isNot_other rfl (fun z => nomatch z) ⟨.bl true, H, I, rfl, q⟩
    · cases hn
  · cases hr
end
end M

/-! truth, subscripts, built-ins, methods on values that stand for data -/
namespace M
open PySem PySem.Spec PyProof.Rows L2
section
variable {X : Cx}
theorem tru_v {K : PySem.W.Frag} {H : Hp} {N : Addr → Prop} {x : V} {d : D} {k : Bool} (hx : PR K H N x d) (h : truD d = some k) : TruV K x H k := by
  unfold truD at h
  split at h
  · cases hx.non; cases h; rfl
  · cases hx.bl; cases h; rfl
  · cases hx.int; cases h; rfl
  · cases hx.str
    split at h
    · cases h; exact ⟨by assumption, rfl⟩
    · cases h
  · obtain ⟨a, vs, rfl, h1, h2⟩ := hx.lst
    cases h
    refine .inl ⟨vs, .inl h1, ?_⟩
    cases h2 <;> rfl
  · obtain ⟨a, vs, rfl, h1, h2⟩ := hx.tup
    cases h
    refine .inr (.inl ⟨vs, h1, ?_⟩)
    cases h2 <;> rfl
  · cases h
/-- a subscript -/
def rIxD (K : PySem.W.Frag) : R2 := fun v u H Q => ∃ m S d e r, StOk K H m S ∧ PR K H (Own m S) v d ∧ PR K H (Own m S) u e ∧ idxD d e = some r ∧ Fol K H m S r Q
theorem ix_D : IxR X (rIxD X.K) := by
  intro value slice pins s σ H x y v u Q I rx ry h hs
  obtain ⟨m, S, d, e, r, ok, hx, hy, hr, f⟩ := h
  unfold idxD at hr
  split at hr
  · obtain ⟨a, vs, rfl, h1, h2⟩ := hx.lst
    cases hy.int
    obtain ⟨w, e1, e2⟩ := atI_reps h2 hr
    exact ix_list value slice pins s σ H _ _ v u Q I rx ry ⟨_, _, _, _, rfl, rfl, .inl h1, e1, f.here ok e2⟩ hs
  · obtain ⟨a, vs, rfl, h1, h2⟩ := hx.tup
    cases hy.int
    obtain ⟨w, e1, e2⟩ := atI_reps h2 hr
    exact ix_tup value slice pins s σ H _ _ v u Q I rx ry ⟨_, _, _, _, rfl, rfl, h1, e1, f.here ok e2⟩ hs
  · cases hx.str; cases hy.int
    split at hr
    · rename_i z i hz
      cases q : atI z.cps.toList i with
      | none => rw [q] at hr; cases hr
      | some c =>
        rw [q] at hr; cases hr
        exact ix_str value slice pins s σ H _ _ v u Q I rx ry ⟨_, _, _, rfl, rfl, hz, q, f.here ok (.str _)⟩ hs
    · cases hr
  · cases hr
/-- a slice -/
def rSlD (K : PySem.W.Frag) : V → Option Int → Option Int → Hp → VK → Prop := fun v lo hi H Q => ∃ m S d r, StOk K H m S ∧ PR K H (Own m S) v d ∧ slcD d lo hi = some r ∧ Fol K H m S r Q
theorem cutD_all {xs : List D} {lo hi : Option Int} (h : HT.sIx xs.length 0 lo = 0 ∧ HT.sIx xs.length xs.length hi = xs.length) : cutD xs lo hi = xs := by
  unfold cutD
  rw [h.1, h.2]
  simp
theorem sl_D : SlR X (rSlD X.K) := by
  intro pins s σ H x v vl vu lo hi sl Q I rx hs pl pu h
  obtain ⟨m, S, d, r, ok, hx, hr, f⟩ := h
  unfold slcD at hr
  split at hr
  · obtain ⟨a, vs, rfl, h1, h2⟩ := hx.lst
    cases hr
    exact sl_list pins s σ H _ v vl vu lo hi sl Q I rx hs pl pu ⟨_, _, rfl, .inl h1, f.lst ok (h2.cut lo hi)⟩
  · obtain ⟨a, vs, rfl, h1, h2⟩ := id hx.tup
    cases hr
    refine sl_tupA pins s σ H _ v vl vu lo hi sl Q I rx hs pl pu ⟨_, _, rfl, h1, fun z => ?_, fun _ => f.tup ok (h2.cut lo hi)⟩
    rw [h2.length] at z
    rw [cutD_all z] at f
    exact f.here ok (hx.rep fun _ z => nomatch z)
  · cases hx.str
    split at hr
    · cases hr
      exact sl_str pins s σ H _ v vl vu lo hi sl Q I rx hs pl pu ⟨_, rfl, by assumption, f.here ok (.str _)⟩
    · cases hr
  · cases hr

/-! ### sorted -/
theorem eachVals : ∀ {vs : List V} {its : List Value} {ds : List D}, Vals vs its → vs.length = ds.length → PySem.W.EachIs (fun (u : Value) (b : V × D) => RelV b.1 u) its (vs.zip ds)
  | _, _, [], .nil, _ => .nil
  | _, _, d :: ds, .cons r t, h => .cons r (eachVals t (by simpa using h))
theorem eachReads {K : PySem.W.Frag} {H : Hp} {N : Addr → Prop} {h : Heap} (rd : ∀ (v : V) (u : Value) (d : D), Rep K H N v d → RelV v u → ∃ as, Reads h u (toPy d) as) : ∀ {vs : List V} {its : List Value} {ds : List D}, Vals vs its → Reps K H N vs ds → PySem.W.EachIs (fun (u : Value) (b : V × D) => ∃ as, Reads h u (toPy b.2) as) its (vs.zip ds)
  | _, _, _, .nil, .nil => .nil
  | _, _, _, .cons r t, .cons q p => .cons (rd _ _ _ q r) (eachReads rd t p)
theorem valsEach : ∀ {out : List Value} {bs : List (V × D)}, PySem.W.EachIs (fun (u : Value) (b : V × D) => RelV b.1 u) out bs → Vals (bs.map (·.1)) out
  | _, _, .nil => .nil
  | _, _, .cons r t => .cons r (valsEach t)
theorem Reps.zip {K : PySem.W.Frag} {H : Hp} {N : Addr → Prop} : ∀ {vs : List V} {ds : List D}, Reps K H N vs ds → ∀ b ∈ vs.zip ds, Rep K H N b.1 b.2
  | _, _, .nil, b, h => by simp at h
  | _, _, .cons q r, b, h => by
    rw [List.zip_cons_cons] at h
    rcases List.mem_cons.mp h with rfl | h
    · exact q
    · exact Reps.zip r b h
theorem reps_of_zip {K : PySem.W.Frag} {H : Hp} {N : Addr → Prop} : ∀ {bs : List (V × D)}, (∀ b ∈ bs, Rep K H N b.1 b.2) → Reps K H N (bs.map (·.1)) (bs.map (·.2))
  | [], _ => .nil
  | b :: bs, h => .cons (h b List.mem_cons_self) (reps_of_zip fun c hc => h c (List.mem_cons_of_mem _ hc))
theorem call_sortedD (hu : X.A.units + 70 < cLine) : CallR X (.builtin "sorted") (fun vs H Q => ∃ m S xs x, vs = [x] ∧ StOk X.K H m S ∧ PR X.K H (Own m S) x (.lst xs) ∧ sortOk xs = true ∧
    ∀ ws p, Reps X.K H (Own m S) ws (xs.mergeSort dle) → H p = none → Q (.ref p) (upd H p (.lst ws))) := by
  intro pins s σ H vs us Q I r h
  obtain ⟨m, S, xs, x, rfl, ok, hx, hs, q⟩ := h
  obtain ⟨a, ws, rfl, h1, h2⟩ := hx.lst
  rw [Vals.ref1 r]
  obtain ⟨z, its, n, rv, hl, e⟩ := lstR I h1
  unfold sortOk at hs
  simp only [Bool.and_eq_true, Bool.or_eq_true, List.all_eq_true, decide_eq_true_eq] at hs
  obtain ⟨⟨⟨al, dp⟩, so⟩, sz⟩ := hs
  have hlen : ws.length = xs.length := h2.length
  have e1 := eachVals rv hlen
  have er : PySem.W.EachIs (fun (u : Value) (b : V × D) => ∃ as, Reads s.heap u (toPy b.2) as) its (ws.zip xs) := eachReads (fun v u d hr ru => Dp.reads I _ v u hr.dp ru) rv h2
  have hm : ∀ b ∈ ws.zip xs, b.2 ∈ xs := fun b hb => (List.of_mem_zip hb).2
  have hal : PySem.W.AllAlike ((ws.zip xs).map fun b => toPy b.2) := by
    intro d hd d' hd'
    obtain ⟨b, hb, rfl⟩ := List.mem_map.mp hd
    obtain ⟨b', hb', rfl⟩ := List.mem_map.mp hd'
    exact al _ (hm b hb) _ (hm b' hb')
  have hk : PySem.W.Sortable ((ws.zip xs).map fun b => toPy b.2) := by
    rcases so with so | so
    · refine .inl fun d hd => ?_
      obtain ⟨b, hb, rfl⟩ := List.mem_map.mp hd
      have := so _ (hm b hb)
      revert this
      cases b.2 with
      | tup ys => cases ys with
        | nil => exact fun z => nomatch z
        | cons y ys => exact fun _ => ⟨toPy y, toPys ys, by rw [toPy, toPys]⟩
      | _ => exact fun z => nomatch z
    · refine .inr fun d hd => ?_
      obtain ⟨b, hb, rfl⟩ := List.mem_map.mp hd
      have := so _ (hm b hb)
      revert this
      cases b.2 with
      | non => exact fun z => nomatch z
      | tup ys => exact fun z => nomatch z
      | _ => exact fun _ => ⟨(fun z => by simp [toPy] at z), (fun _ z => by simp [toPy] at z)⟩
  have hL : (ws.zip xs).length ≤ sizeLine := by rw [List.length_zip, hlen, Nat.min_self]; exact sz
  refine PySem.W.sorted_data (s := s) ⟨_, e, rfl, _, rfl⟩ e1 er hal hk hL (fun b hb => by have := dp _ (hm b hb); omega) fun out hol eo => ?_
  obtain ⟨ep, he'⟩ := PyProof.Rows.sortedAll_at s.heap its out.toArray
  have vo := valsEach eo
  have hsort : ((ws.zip xs).mergeSort (PySem.W.dataLe false fun b => toPy b.2)).map (·.2) = xs.mergeSort dle := by
    have := PySem.W.sort_maps (r := PySem.W.dataLe false fun b : V × D => toPy b.2) (s := dle) (fun b : V × D => b.2) (l := ws.zip xs) (fun a _ b _ => by rw [PySem.W.dataLe_eq]; rfl)
    rw [this, List.map_snd_zip (by omega)]
  have hreps : Reps X.K H (Own m S) (((ws.zip xs).mergeSort (PySem.W.dataLe false fun b => toPy b.2)).map (·.1)) (xs.mergeSort dle) := by
    rw [← hsort]
    exact reps_of_zip fun b hb => h2.zip b (List.mem_mergeSort.mp hb)
  have hsz : (((ws.zip xs).mergeSort (PySem.W.dataLe false fun b => toPy b.2)).map (·.1)).length ≤ sizeLine := by rw [List.length_map, List.length_mergeSort]; exact hL
  exact ⟨.ref _, upd H (s.heap.objs.size + 1) (.lst _), I.laid (t' := s.toks) (fun _ _ => PyProof.Rows.sortedAll_old) (Nat.le_succ _) ⟨hsz, out, ep, vo, he'⟩, rfl, q _ _ hreps (I.hok.fresh (Nat.le_succ _))⟩

/-! ### isinstance -/
def tyN : Ty → String
  | .int => "int" | .bool => "bool" | .str => "str" | .tuple => "tuple" | .list => "list"
def kindN : D → String
  | .non => "NoneType" | .bl _ => "bool" | .int _ => "int" | .str _ => "str" | .tup _ => "tuple" | .lst _ => "list" | .dct _ => "dict" | .ins _ _ => ""
theorem tyX_of {K : PySem.W.Frag} {H : Hp} {N : Addr → Prop} {x : V} {d : D} (h : PR K H N x d) : TyX K H x (.type (kindN d)) := by
  cases h with
  | of h =>
    cases h with
    | non => exact .base .non
    | bl b => exact .base (.bl b)
    | int i => exact .base (.int i)
    | str x => exact .base (.str x)
    | tup q r =>
      rcases q with ⟨q | ⟨o, q⟩, _⟩ | ⟨o, its, n, q, hc, _⟩
      · exact .base (.tup q)
      · exact .fTuple q
      · exact .kTuple q hc
    | lst q r =>
      rcases q with ⟨q | ⟨o, q⟩, _⟩
      · exact .base (.lst q)
      · exact .base (.frz q)
  | live h r => exact .base (.lst h)
theorem kit_isi {K : PySem.W.Frag} {H : Hp} {N : Addr → Prop} {x : V} {d : D} (h : PR K H N x d) (t : Ty) : kitB (kindN d) (tyN t) = some (isiD d t) := by
  cases h with
  | of h => cases h <;> cases t <;> (simp only [kindN, tyN, isiD]; decide +kernel)
  | live h r => cases t <;> (simp only [kindN, tyN, isiD]; decide +kernel)
def rIsD (K : PySem.W.Frag) (t : Ty) : List V → Hp → VK → Prop := fun xs H Q => ∃ m S x d, xs = [x, .ty (tyN t)] ∧ StOk K H m S ∧ PR K H (Own m S) x d ∧ Q (.bl (isiD d t)) H
theorem call_isD (t : Ty) : CallR X (.builtin "isinstance") (rIsD X.K t) := by
  intro pins s σ H vs us Q I r h
  obtain ⟨m, S, x, d, rfl, ok, hx, q⟩ := h
  exact call_isi pins s σ H _ us Q I r ⟨x, _, _, _, _, rfl, .ty _, tyX_of hx, kit_ty (kit_isi hx t), q⟩
theorem kit_any {K : PySem.W.Frag} {H : Hp} {N : Addr → Prop} {x : V} {d : D} (h : PR K H N x d) : ∀ ts : List Ty, PySem.W.kitAny K (.type (kindN d)) (ts.map fun t => Value.type (tyN t)) = some (ts.any fun t => isiD d t)
  | [] => rfl
  | t :: ts => by
    refine kitAny_cons (b := isiD d t) (kit_ty (kit_isi h t)) (fun e => ?_) (fun e => ?_)
    · rw [kit_any h ts, List.any_cons, e]; rfl
    · rw [List.any_cons, e]; rfl
theorem paired_ty (ts : List Ty) : Paired ClsV (ts.map fun t => V.ty (tyN t)) (ts.map fun t => Value.type (tyN t)) := by
  induction ts with
  | nil => exact .nil
  | cons t ts ih => exact .cons (.ty _) ih
def rIsDs (K : PySem.W.Frag) (ts : List Ty) : List V → Hp → VK → Prop := fun xs H Q => ∃ m S x d p, xs = [x, .ref p] ∧ H p = some (.tup (ts.map fun t => V.ty (tyN t))) ∧ StOk K H m S ∧ PR K H (Own m S) x d ∧ Q (.bl (ts.any fun t => isiD d t)) H
theorem call_isDs (ts : List Ty) : CallR X (.builtin "isinstance") (rIsDs X.K ts) := by
  intro pins s σ H vs us Q I r h
  obtain ⟨m, S, x, d, p, rfl, hp, ok, hx, q⟩ := h
  exact call_isiT pins s σ H _ us Q I r ⟨x, p, _, _, _, _, rfl, hp, paired_ty ts, tyX_of hx, kit_any hx ts, q⟩

/-! ### other built-ins of one or two arguments -/
def bval : Bi → Value
  | .len => .builtin "len" | .int => .type "int" | .all => .builtin "all" | .any => .builtin "any" | .sum => .builtin "sum" | .list => .type "list" | .tuple => .type "tuple"
  | .sorted => .builtin "sorted" | .repr => .builtin "repr" | .str => .type "str" | .min => .builtin "min" | .max => .builtin "max"
theorem call_repr_bl : CallR X (.builtin "repr") (fun xs H Q => ∃ b, xs = [.bl b] ∧ Q (.str (if b then "True" else "False")) H) := by
  intro pins s σ H xs us Q I r h
  obtain ⟨b, rfl, q⟩ := h
  obtain ⟨u, rfl, rfl⟩ := vals1 r
  exact PySem.P.repr_of_bool ⟨.str _, H, I.tok _, ⟨_, rfl⟩, q⟩
def rBi (K : PySem.W.Frag) (b : Bi) : List V → Hp → VK → Prop := fun vs H Q => ∃ m S ds r, StOk K H m S ∧ PRs K H (Own m S) vs ds ∧ biD b ds = some r ∧ Fol K H m S r Q
theorem call_bi (b : Bi) (hc : X.calm = true) (hu : X.A.units + 70 < cLine) : CallR X (bval b) (rBi X.K b) := by
  intro pins s σ H vs us Q I r h
  obtain ⟨m, S, ds, d, ok, hv, hr, f⟩ := h
  unfold biD at hr
  split at hr
  · cases hv with | cons h1 h2 => cases h2; cases hr; obtain ⟨a, ws, rfl, g1, g2⟩ := h1.lst; exact call_len pins s σ H _ us Q I r ⟨_, _, rfl, .inl ⟨_, .inl g1, rfl⟩, by rw [g2.length]; exact f.here ok (.int _)⟩
  · cases hv with | cons h1 h2 => cases h2; cases hr; obtain ⟨a, ws, rfl, g1, g2⟩ := h1.tup; exact call_len pins s σ H _ us Q I r ⟨_, _, rfl, .inr ⟨_, g1, rfl⟩, by rw [g2.length]; exact f.here ok (.int _)⟩
  · cases hv with | cons h1 h2 =>
      cases h2; cases h1.str
      split at hr
      · cases hr; exact call_len_str pins s σ H _ us Q I r ⟨_, rfl, by assumption, f.here ok (.int _)⟩
      · cases hr
  · cases hv with | cons h1 h2 => cases h2; cases hr; cases h1.int; exact call_int1 pins s σ H _ us Q I r (.inl ⟨_, rfl, f.here ok (.int _)⟩)
  · cases hv with | cons h1 h2 => cases h2; cases hr; cases h1.bl; exact call_int1 pins s σ H _ us Q I r (.inr ⟨_, rfl, f.here ok (.int _)⟩)
  · cases hv with | cons h1 h2 =>
      cases h2
      obtain ⟨a, ws, rfl, g1, g2⟩ := h1.lst
      obtain ⟨bs, e, rfl⟩ := Option.map_eq_some_iff.mp hr
      cases g2.bls e; exact cr_all hc pins s σ H _ us Q I r ⟨_, _, rfl, .inl g1, f.here ok (.bl _)⟩
  · cases hv with | cons h1 h2 =>
      cases h2
      obtain ⟨a, ws, rfl, g1, g2⟩ := h1.lst
      obtain ⟨bs, e, rfl⟩ := Option.map_eq_some_iff.mp hr
      cases g2.bls e; exact cr_any hc pins s σ H _ us Q I r ⟨_, _, rfl, .inl g1, f.here ok (.bl _)⟩
  · cases hv with | cons h1 h2 =>
      cases h2
      obtain ⟨a, ws, rfl, g1, g2⟩ := h1.lst
      obtain ⟨bs, e, rfl⟩ := Option.map_eq_some_iff.mp hr
      cases g2.ints e; exact cr_sum hc pins s σ H _ us Q I r ⟨_, _, rfl, .inl g1, f.here ok (.int _)⟩
  · cases hv with | cons h1 h2 => cases h2; cases hr; obtain ⟨a, ws, rfl, g1, g2⟩ := h1.lst; exact call_list_of pins s σ H _ us Q I r ⟨_, _, rfl, .inl (.inl g1), f.lst ok g2⟩
  · cases hv with | cons h1 h2 => cases h2; cases hr; obtain ⟨a, ws, rfl, g1, g2⟩ := h1.tup; exact call_list_of pins s σ H _ us Q I r ⟨_, _, rfl, .inr g1, f.lst ok g2⟩
  · cases hv with | cons h1 h2 => cases h2; cases hr; obtain ⟨a, ws, rfl, g1, g2⟩ := h1.lst; exact call_tuple_of pins s σ H _ us Q I r ⟨_, _, rfl, .inl ⟨.inl g1, f.tup ok g2⟩⟩
  · cases hv with | cons h1 h2 => cases h2; cases hr; obtain ⟨a, ws, rfl, g1, g2⟩ := id h1.tup; exact call_tuple_of pins s σ H _ us Q I r ⟨_, _, rfl, .inr ⟨g1, f.here ok (h1.rep fun _ z => nomatch z)⟩⟩
  · cases hv with | cons h1 h2 =>
      cases h2
      split at hr
      · cases hr; exact call_sortedD hu pins s σ H _ us Q I r ⟨m, S, _, _, rfl, ok, h1, by assumption, fun ws p hw hp => f.lst ok hw p hp⟩
      · cases hr
  · cases hv with | cons h1 h2 => cases h2; cases hr; cases h1.bl; exact call_repr_bl pins s σ H _ us Q I r ⟨_, rfl, f.here ok (.str _)⟩
  · cases hv with | cons h1 h2 => cases h2 with | cons h2 h3 => cases h3; cases hr; cases h1.int; cases h2.int; exact call_min2 hc pins s σ H _ us Q I r ⟨_, _, rfl, f.here ok (.int _)⟩
  · cases hv with | cons h1 h2 => cases h2 with | cons h2 h3 => cases h3; cases hr; cases h1.int; cases h2.int; exact call_max2 hc pins s σ H _ us Q I r ⟨_, _, rfl, f.here ok (.int _)⟩
  · cases hr

/-! ### methods -/
theorem firstEq_get {x : D} : ∀ {ys : List D} {k n : Nat}, firstEq x ys k = some n → k ≤ n ∧ ∃ z, ys[n - k]? = some z ∧ deq z x = true ∧ ∀ (j : Nat) (z' : D), j < n - k → ys[j]? = some z' → deq z' x = false
  | [], _, _, h => by cases h
  | y :: ys, k, n, h => by
    unfold firstEq at h
    split at h
    · cases h
      refine ⟨Nat.le_refl _, y, by simp, by assumption, fun j z' hj => by omega⟩
    · rename_i hy
      obtain ⟨h1, z, h2, h3, h4⟩ := firstEq_get h
      have e : n - k = (n - (k + 1)) + 1 := by omega
      refine ⟨by omega, z, by rw [e]; simpa using h2, h3, fun j z' hj hz => ?_⟩
      cases j with
      | zero => simp at hz; subst hz; simpa using hy
      | succ j => exact h4 j z' (by omega) (by simpa using hz)
def mid : Mt → String
  | .index => "list.index" | .split => "str.split" | .count => "str.count" | .join => "str.join"
def mty : Mt → String
  | .index => "list" | .split => "str" | .count => "str" | .join => "str"
def rMt (K : PySem.W.Frag) (k : Mt) : V → List V → Hp → VK → Prop := fun v vs H Q => ∃ m S d ds r, StOk K H m S ∧ PR K H (Own m S) v d ∧ PRs K H (Own m S) vs ds ∧ mthD k d ds = some r ∧ Fol K H m S r Q
theorem mt_D (k : Mt) (hu : X.A.units + 65 < cLine) : MtR X (mid k) (rMt X.K k) := by
  intro pins s σ H x xs v us Q I rx rs h
  obtain ⟨m, S, d, ds, r, ok, hx, hs, hr, f⟩ := h
  unfold mthD at hr
  split at hr
  · rename_i ys x'
    split at hr
    · rename_i hc
      obtain ⟨n, e, rfl⟩ := Option.map_eq_some_iff.mp hr
      have hc := Bool.and_eq_true_iff.mp hc
      cases hs with
      | cons h1 h2 =>
        cases h2
        obtain ⟨a, ws, rfl, g1, g2⟩ := id hx.lst
        obtain ⟨_, z, e1, e2, e3⟩ := firstEq_get e
        rw [Nat.sub_zero] at e1 e3
        have l2 := okD_lay hc.2
        rw [toPy, PyData.canLay0] at l2
        have hd := hx.dp
        rw [toPy] at hd
        have sh : SeqAt.shaped (PyData.list (toPys ys)) = true := by have := hc.2; unfold okD at this; rw [toPy] at this; exact this
        refine mt_indexD hu pins s σ H _ _ v us Q I rx rs ⟨a, _, _, toPys ys, n, toPy z, rfl, rfl, hd, h1.dp, sh, hc.1, ?_, ?_, fun j z' hj hz => ?_, f.here ok (.int _)⟩
        · rw [toPys_eq, List.getElem?_map, e1]; rfl
        · rw [eqv_deq _ _ (lay_mem l2 z (List.mem_of_getElem? e1)) (okD_lay hc.1)]; exact e2
        · rw [toPys_eq, List.getElem?_map] at hz
          obtain ⟨w, hw, rfl⟩ := Option.map_eq_some_iff.mp hz
          rw [eqv_deq _ _ (lay_mem l2 w (List.mem_of_getElem? hw)) (okD_lay hc.1)]
          exact e3 j w hj hw
    · cases hr
  · cases hx.str
    split at hr
    · rename_i hc
      cases hr
      cases hs with
      | cons h1 h2 =>
        cases h2; cases h1.str
        exact mt_split pins s σ H _ _ v us Q I rx rs ⟨_, _, rfl, rfl, hc.1, hc.2, fun p hp => f.lst ok (reps_strs _) p hp⟩
    · cases hr
  · cases hr
theorem ty_mt {K : PySem.W.Frag} {H : Hp} {N : Addr → Prop} {x : V} {d : D} {k : Mt} (hx : PR K H N x d) (h : mtOk k d = true) : tyV K (mty k) x H := by
  unfold mtOk at h
  split at h
  · obtain ⟨a, ws, rfl, g1, g2⟩ := hx.lst
    exact .inl ⟨rfl, _, .inl g1⟩
  · cases hx.str; rfl
  · cases hx.str; rfl
  · cases hx.str; rfl
  · cases h
end
end M

/-! a set of texts that grows by one text at a time: named after what the library tells of one text's add (Froz.add_x) -/
namespace M
open PySem PySem.Spec PyProof.Rows L2 PySem.Froz
/-- the payload's table can be walked -/
def Wkb (w : World) (D : SD) : Prop := Ris D.2.2.place.toList ∧ (w.params.followText "set-order" = true ∨ D.2.2.led = true)
theorem Wkb.tail {w : World} {ep : Nat} {es : Array (Int × Value)} {t : SetTable} {dm : Bool} (g : Wkb w (es, ep, t)) : Wkb w (tailTx ep es t dm) := by
  unfold tailTx
  cases (!dm && t.tooFull) with
  | true => exact ⟨relayAll_ris _ _ _, g.2.imp id fun z => (relayAll_led t es _).trans z⟩
  | false => exact g
theorem Wkb.add {w : World} {D : SD} (g : Wkb w D) (hsh : Int) (v : Value) : Wkb w (addTx hsh v D) := by
  obtain ⟨es, ep, t⟩ := D
  have p1 := layNew_ris t es hsh v g.1
  have p2 : w.params.followText "set-order" = true ∨ (layNew t es hsh v).2.1.led = true := g.2.imp id fun z => (layNew_led t es hsh v).trans z
  unfold addTx
  refine Wkb.tail (ep := ep) ?_
  dsimp only
  cases (layNew t es hsh v).2.1.plain with
  | true => exact ⟨p1, p2⟩
  | false => exact ⟨p1, p2⟩
/-- at a stands a set of just these texts, each once -/
structure TxS (P : Program) (w : World) (h : Heap) (a : Addr) (l : List Str) : Prop where
  here : ∃ D, h.get? a = some (sObj "set" D) ∧ TxOk P w D l ∧ Wkb w D
  each : l.Nodup
section
variable {P : Program} {w : World} {A : Around} {E : Value → Shared → Prop} {s : Shared} {a : Addr} {l : List Str}
theorem TxS.keep {h h' : Heap} (T : TxS P w h a l) (k : ∀ o, h.get? a = some o → h'.get? a = some o) : TxS P w h' a l :=
  let ⟨D, g, r⟩ := T.here
  ⟨⟨D, k _ g, r⟩, T.each⟩
/-- a text that is there already changes nothing -/
theorem add_there {k : Str} {u : Tok} {Q : Bool → Shared → Prop} (T : TxS P w s.heap a l) (hk : k ∈ l) (hb : l.length < scanBound) (q : Q false s) : wpAny (model P w) A (setAddHashed a (.str k u) (hashStr w k)) Q E s := by
  obtain ⟨⟨es, ep, t⟩, at_, ok, -⟩ := T.here
  have small : es.size < scanBound := by rw [show es.size = l.length from ok.sz]; exact hb
  obtain ⟨e, me, ie⟩ := (ok.mem k).mp hk
  obtain ⟨j, hj⟩ : ∃ j, es.toList.findIdx? (fun e => (strKind P w).is k e.2) = some j := by
    cases c : es.toList.findIdx? (fun e => (strKind P w).is k e.2) with
    | some j => exact ⟨j, rfl⟩
    | none => exact absurd ie (by rw [List.findIdx?_eq_none_iff.mp c e me]; exact Bool.false_ne_true)
  have sees : wpAny (model P w) A (setAddByScan a (.str k u) (hashStr w k) es t) (fun r s' => r = some false ∧ s' = s) E s :=
    wpAny_bind (wpAny_rule (wpAny_bind (wpAny_setScan_of (knd := strKind P w) (is_str k u) at_ rfl ok.fit ok.el (by rw [hj]; exact wpAny_pure ⟨rfl, rfl⟩))))
  have scan : byScan (.str k u) es = true := byScan_of (knd := strKind P w) rfl small ok.el
  show wpAny _ _ (holding [.str k u] (setAddHashedIn a (.str k u) (hashStr w k) (99999 + 1))) _ _ _
  rw [setAddHashedIn]
  refine wpAny_holding (wpAny_bind (wpAny_setState_of at_ rfl ok.fit ?_))
  simp only [scan, if_true]
  exact wpAny_bind (wpAny_mono sees (fun r s' ⟨e1, e2⟩ => by subst e1; subst e2; exact wpAny_pure q) fun _ _ z => z)
/-- the set behind an add -/
def grow (l : List Str) (k : Str) : List Str := if k ∈ l then l else k :: l
theorem add_text {k : Str} {u : Tok} {Q : Bool → Shared → Prop} (T : TxS P w s.heap a l) (hb : l.length + 1 < scanBound) (q : ∀ b h', Heap.SameBut a s.heap h' → TxS P w h' a (grow l k) → Q b { s with heap := h' }) :
    wpAny (model P w) A (setAddHashed a (.str k u) (hashStr w k)) Q E s := by
  by_cases hk : k ∈ l
  · refine add_there T hk (by omega) (q false s.heap (Heap.SameBut.refl a s.heap) ?_)
    rw [grow, if_pos hk]; exact T
  · obtain ⟨D, at_, ok, wk⟩ := T.here
    refine add_x at_ ok hk hb (q true _ (Heap.SameBut.update s.heap a _) ?_)
    rw [grow, if_neg hk]
    exact ⟨⟨_, get_upd _ at_ rfl, add_ok u ok, wk.add _ _⟩, List.nodup_cons.mpr ⟨hk, T.each⟩⟩
/-- what the loop leaves: the texts one by one -/
theorem fill {R : Result → Shared → Prop} {I S : Addr} {fp wr : List Addr} {n : Nat} {Pv : Nat → Value → Prop} {St : Nat → Heap → Prop} (W : Walks P w A.in1 I fp wr n Pv St) (far : S ∉ fp) {xs : List Str} (hn : xs.length = n) (texts : ∀ i v, Pv i v → ∃ x t, xs[i]? = some x ∧ v = .str x t) (room : n + 1 < scanBound) (s : Shared) :
    ∀ (rest : List Str) (i : Nat) (l : List Str) (h : Heap) (tk : Nat), xs.drop i = rest → i ≤ n → l.length ≤ i → St i h → TxS P w h S l →
      (∀ h' tk', TxS P w h' S (rest.foldl grow l) → (∀ b o, b ≠ S → b ∉ wr → h.get? b = some o → h'.get? b = some o) → R (.ok (.ret .none)) { s with heap := h', toks := tk' }) →
      codeAny (model P w) A (.builtin "set.update.loop" ⟨[.ref S, .ref I], []⟩) R { s with heap := h, toks := tk } := by
  have nwr : S ∉ wr := fun z => far (W.sub S z)
  intro rest
  induction rest with
  | nil =>
    intro i l h tk ed hi hl st T q
    have ei : i = n := by have := congrArg List.length ed; rw [List.length_drop] at this; simp at this; omega
    subst ei
    refine codeAny_builtin PyProof.Rows.F.entry_set_update_loop ?_
    rw [Around.under_plainId PyProof.Rows.F.plain_set_update_loop _]
    refine wpAny_bind (W.done { s with heap := h, toks := tk } _ _ st fun h' tk' kp => ?_)
    exact wpAny_pure (q h' tk' (T.keep fun o e => kp S o nwr e) fun b o _ hb e => kp b o hb e)
  | cons x rest more =>
    intro i l h tk ed hi hl st T q
    have lt : i < n := by have := congrArg List.length ed; rw [List.length_drop] at this; simp at this; omega
    have hx : xs[i]? = some x := by
      have := congrArg List.head? ed
      rw [List.head?_drop] at this
      exact this
    refine codeAny_builtin PyProof.Rows.F.entry_set_update_loop ?_
    rw [Around.under_plainId PyProof.Rows.F.plain_set_update_loop _]
    refine wpAny_bind (W.item i { s with heap := h, toks := tk } _ _ lt st fun v h1 tk1 pv st1 kp => ?_)
    obtain ⟨y, t, ey, rfl⟩ := texts i v pv
    have : y = x := by rw [hx] at ey; exact (Option.some.inj ey).symm
    subst this
    have T1 : TxS P w h1 S l := T.keep fun o e => kp S o nwr e
    have lg : (grow l y).length ≤ i + 1 := by
      unfold grow
      split
      · omega
      · rw [List.length_cons]; omega
    refine wpAny_bind (wpAny_holding (wpAny_holding (wpAny_bind ((strKind P w).pyHash (is_str y t) ?_))))
    refine add_text (s := { s with heap := h1, toks := tk1 + 1 }) T1 (by omega) fun b h2 sb T2 => ?_
    refine wpAny_pure ⟨plainId_quiet PyProof.Rows.F.plain_set_update_loop _, more (i + 1) (grow l y) h2 (tk1 + 1) ?_ lt lg (W.frame _ h1 h2 st1 fun c hc o e => (sb.2 c fun z => far (z ▸ hc)).trans e) T2 fun h3 tk3 T3 kp3 => q h3 tk3 T3 fun c o c1 c2 e => kp3 c o c1 c2 ((sb.2 c c1).trans (kp c o c2 e))⟩
    have := congrArg List.tail ed
    rw [List.tail_drop] at this
    exact this
/-- a new set -/
def set0 (w : World) : Obj := sObj "set" (#[], 0, .fresh 0 0 (!w.params.followText "set-order"))
theorem txs_new (h : Heap) : TxS P w (h.push (set0 w)) h.objs.size [] := by
  refine ⟨⟨_, Heap.get?_push_size _ rfl, TxOk.nil rfl, by simp [Ris, SetTable.fresh], ?_⟩, List.nodup_nil⟩
  cases e : w.params.followText "set-order" with
  | true => exact .inl rfl
  | false => exact .inr (by simp [SetTable.fresh, e])
/-- set(x): made, then filled; as the model's type.__call__ has it (the library has this for an init whose check asks nothing of the heap: callType_codes) -/
theorem call_set1 {x : Value} {Q Q₁ : Value → Shared → Prop} (made : codeAny (model P w) A.in1 (.call (.builtin "set.__new__") ⟨[.type "set", x], []⟩) (wants Q₁ E) s)
    (filled : ∀ o s1, Q₁ o s1 → s1.TypeIs o "set" ∧ wpAny (model P w) A.in1.in1 (Builtin.«set.__init__» ⟨[o, x], []⟩) (fun r s2 => r = .done (.ret .none) ∧ Q o s2) (fun _ _ => False) s1) : wpAny (model P w) A (call (.type "set") [x]) Q E s := by
  have c := PySem.F.called_set
  obtain ⟨_, _, mro⟩ := c.mro
  have a1 := c.made
  have a2 := c.sub
  have a3 := c.notType
  have a4 := c.canCreate
  have a5 := PySem.F.typeCall_set_1 x
  refine wpAny_call (codeAny_of_tree (wpAny_pure ⟨Code.quiet_builtin _ (by decide +kernel), codeAny_builtin PySem.F.entry_type_call ?_⟩))
  rw [Around.under_plain (weight_type_call_type "set" [x] []) rfl]
  unfold Builtin.«type.__call__»
  simp only [a3, a4, Bool.false_eq_true, if_false, bind_assoc, pure_bind]
  refine wpAny_bind (wpAny_of_eq a5 ?_)
  refine wpAny_bind (wpAny_of_eq mro ?_)
  simp only [List.isEmpty_cons, Bool.false_eq_true, if_false]
  refine wpAny_bind (wpAny_of_eq a1 ?_)
  refine wpAny_bind (wpAny_holding (wpAny_call (codeAny_mono made fun r s1 q1 => ?_)))
  cases r with
  | error e => exact q1
  | ok fl =>
    cases fl with
    | ret o =>
      obtain ⟨ty, body⟩ := filled o s1 q1
      refine wpAny_bind (wpAny_isInstance ty a2 ?_)
      simp only [Bool.not_true, Bool.false_eq_true, if_false, callSpecial?]
      refine wpAny_bind (wpAny_holding (wpAny_bind (wpAny_specialOf ty c.init.lookup (wpAny_holding (wpAny_bind (wpAny_of_eq (c.init.bind o) ?_))))))
      refine wpAny_bind (wpAny_call (codeAny_call_builtin_code (plainId_quiet c.init.plain _) (check_set_init_1 ty (codeAny_builtin PySem.F.entry_set_init ?_))))
      rw [Around.under_plainId c.init.plain _]
      refine wpAny_mono body (fun r s2 ⟨e, q2⟩ => ?_) fun _ _ z => z.elim
      subst e
      exact wpAny_pure (wpAny_pure q2)
    | _ => exact q1.elim
theorem mkset_list {l : Addr} {its : Array Value} {xs : List Str} {Q : Value → Shared → Prop} (free : A.handled = none) (il : s.heap.IsList l its) (tx : Vals (xs.map V.str) its.toList) (room : xs.length + 1 < scanBound)
    (q : ∀ h' tk, TxS P w h' s.heap.objs.size (xs.foldl grow []) → (∀ b o, s.heap.get? b = some o → h'.get? b = some o) → Q (.ref s.heap.objs.size) { s with heap := h', toks := tk }) : wpAny (model P w) A (call (.type "set") [.ref l]) Q E s := by
  refine call_set1 (code_set_led1 (.ref l) (Q₁ := fun u s₁ => u = .ref s.heap.objs.size ∧ s₁ = { s with heap := s.heap.push (set0 w) }) ⟨rfl, rfl⟩) ?_
  rintro obj s1 ⟨rfl, rfl⟩
  have new : (s.heap.push (set0 w)).get? s.heap.objs.size = some (set0 w) := Heap.get?_push_size _ rfl
  have here : Shared.TypeIs { s with heap := s.heap.push (set0 w) } (.ref s.heap.objs.size) "set" := ⟨_, new, rfl⟩
  have il1 : (s.heap.push (set0 w)).IsList l its := il.push _
  have hlt : l < s.heap.objs.size := let ⟨o, e, _⟩ := il; Heap.lt_size e
  have below : ∀ b o, s.heap.get? b = some o → b ≠ s.heap.objs.size ∧ b ∉ [s.heap.objs.size + 1] := fun b o e => by
    have := Heap.lt_size e
    refine ⟨Nat.ne_of_lt this, fun z => ?_⟩
    rw [List.mem_singleton] at z
    rw [z] at this
    exact Nat.not_lt_of_le (Nat.le_succ _) this
  have len : xs.length = its.size := by have := Vals.length tx; rw [List.length_map, Array.length_toList] at this; exact this
  have upd : wpAny (model P w) A.in1.in1 (Builtin.Frozenset.updateFrom "set.__init__" s.heap.objs.size (.ref l)) (fun _ s2 => ∃ h' tk, s2 = { s with heap := h', toks := tk } ∧ TxS P w h' s.heap.objs.size (xs.foldl grow []) ∧ ∀ b o, s.heap.get? b = some o → h'.get? b = some o) (fun _ _ => False) { s with heap := s.heap.push (set0 w) } := by
    unfold Builtin.Frozenset.updateFrom Builtin.Frozenset.isAnySet
    refine wpAny_bind (wpAny_bind (wpAny_isInstance il1.typeIs PySem.F.sub_list_set ?_))
    refine wpAny_isInstance il1.typeIs PySem.F.sub_list_frozenset ?_
    simp only [Bool.false_eq_true, if_false]
    refine wpAny_bind (wpAny_typeOf il1.typeIs ?_)
    rw [if_neg (by decide)]
    refine wpAny_bind (wpAny_pyIter_list il1 (wpAny_bind (wpAny_runValue ?_)))
    have sz : (s.heap.push (set0 w)).objs.size = s.heap.objs.size + 1 := Heap.size_push _ _
    have apart : s.heap.objs.size ∉ [s.heap.objs.size + 1, l] := fun z => by
      rcases List.mem_cons.mp z with z | z
      · exact Nat.ne_of_lt (Nat.lt_succ_self _) z
      · exact Nat.ne_of_gt hlt (List.mem_singleton.mp z)
    rw [sz]
    refine fill (Walks.list (by simpa using free) (s.heap.objs.size + 1) l (Nat.ne_of_lt (Nat.lt_succ_of_lt hlt)) its) apart len (fun i v hv => ?_) (by omega) s xs 0 [] _ s.toks (by simp) (Nat.zero_le _) (Nat.le_refl _) ⟨⟨_, by rw [← sz]; exact Heap.get?_push_size _ rfl, rfl, rfl⟩, il1.push _⟩ ((txs_new s.heap).keep fun o e => Heap.get?_push_of_some _ e) fun h' tk T kp => ?_
    · have hi : i < xs.length := by rw [len]; exact (Array.getElem?_eq_some_iff.mp hv).1
      obtain ⟨v', e1, t, e2⟩ := Vals.get tx (i := i) (x := V.str xs[i]) (by simp [hi])
      rw [Array.getElem?_toList, hv] at e1
      cases e1
      exact ⟨xs[i], t, List.getElem?_eq_getElem hi, e2⟩
    · exact wpAny_pure ⟨h', tk, rfl, T, fun b o e => kp b o (below b o e).1 (below b o e).2 (Heap.get?_push_of_some _ (Heap.get?_push_of_some _ e))⟩
  refine ⟨here, ?_⟩
  unfold Builtin.«set.__init__» noKeywords
  have named : wpAny (model P w) A.in1.in1 (typeNameOfCut 200 (.ref s.heap.objs.size)) (fun _ s' => s' = { s with heap := s.heap.push (set0 w) }) (fun _ _ => False) { s with heap := s.heap.push (set0 w) } := by
    unfold typeNameOfCut shownTypeOf
    refine wpAny_bind (wpAny_bind (wpAny_typeOf here ?_))
    rw [if_neg (by decide)]
    exact wpAny_pure (wpAny_pure rfl)
  have fresh : wpAny (model P w) A.in1.in1 (setUsed s.heap.objs.size) (fun b s' => b = false ∧ s' = { s with heap := s.heap.push (set0 w) }) (fun _ _ => False) { s with heap := s.heap.push (set0 w) } :=
    wpAny_bind (wpAny_setState_of new rfl rfl (wpAny_pure ⟨rfl, rfl⟩))
  refine wpAny_bind (wpAny_pure (wpAny_bind (wpAny_mono named (fun _ s' e => ?_) fun _ _ z => z)))
  subst e
  refine wpAny_bind (wpAny_pure (wpAny_bind (wpAny_pure (wpAny_bind (wpAny_mono fresh (fun b s' ⟨e1, e2⟩ => ?_) fun _ _ z => z)))))
  subst e1; subst e2
  simp only [Bool.false_eq_true, if_false]
  refine wpAny_bind (wpAny_mono upd (fun _ s2 ⟨h', tk, e, T, kp⟩ => ?_) fun _ _ z => z)
  subst e
  exact wpAny_pure ⟨rfl, q h' tk T kp⟩
theorem mkset_tuple {l : Addr} {its : Array Value} {xs : List Str} {Q : Value → Shared → Prop} (free : A.handled = none) (il : s.heap.IsTuple l its) (tx : Vals (xs.map V.str) its.toList) (room : xs.length + 1 < scanBound)
    (q : ∀ h' tk, TxS P w h' s.heap.objs.size (xs.foldl grow []) → (∀ b o, s.heap.get? b = some o → h'.get? b = some o) → Q (.ref s.heap.objs.size) { s with heap := h', toks := tk }) : wpAny (model P w) A (call (.type "set") [.ref l]) Q E s := by
  refine call_set1 (code_set_led1 (.ref l) (Q₁ := fun u s₁ => u = .ref s.heap.objs.size ∧ s₁ = { s with heap := s.heap.push (set0 w) }) ⟨rfl, rfl⟩) ?_
  rintro obj s1 ⟨rfl, rfl⟩
  have new : (s.heap.push (set0 w)).get? s.heap.objs.size = some (set0 w) := Heap.get?_push_size _ rfl
  have here : Shared.TypeIs { s with heap := s.heap.push (set0 w) } (.ref s.heap.objs.size) "set" := ⟨_, new, rfl⟩
  have il1 : (s.heap.push (set0 w)).IsTuple l its := il.push _
  have hlt : l < s.heap.objs.size := let ⟨o, e, _⟩ := il; Heap.lt_size e
  have below : ∀ b o, s.heap.get? b = some o → b ≠ s.heap.objs.size ∧ b ∉ [s.heap.objs.size + 1] := fun b o e => by
    have := Heap.lt_size e
    refine ⟨Nat.ne_of_lt this, fun z => ?_⟩
    rw [List.mem_singleton] at z
    rw [z] at this
    exact Nat.not_lt_of_le (Nat.le_succ _) this
  have len : xs.length = its.size := by have := Vals.length tx; rw [List.length_map, Array.length_toList] at this; exact this
  have upd : wpAny (model P w) A.in1.in1 (Builtin.Frozenset.updateFrom "set.__init__" s.heap.objs.size (.ref l)) (fun _ s2 => ∃ h' tk, s2 = { s with heap := h', toks := tk } ∧ TxS P w h' s.heap.objs.size (xs.foldl grow []) ∧ ∀ b o, s.heap.get? b = some o → h'.get? b = some o) (fun _ _ => False) { s with heap := s.heap.push (set0 w) } := by
    unfold Builtin.Frozenset.updateFrom Builtin.Frozenset.isAnySet
    refine wpAny_bind (wpAny_bind (wpAny_isInstance il1.typeIs PySem.F.sub_tuple_set ?_))
    refine wpAny_isInstance il1.typeIs PySem.F.sub_tuple_frozenset ?_
    simp only [Bool.false_eq_true, if_false]
    refine wpAny_bind (wpAny_typeOf il1.typeIs ?_)
    rw [if_neg (by decide)]
    refine wpAny_bind (wpAny_pyIter_tuple il1 (wpAny_bind (wpAny_runValue ?_)))
    have sz : (s.heap.push (set0 w)).objs.size = s.heap.objs.size + 1 := Heap.size_push _ _
    have apart : s.heap.objs.size ∉ [s.heap.objs.size + 1, l] := fun z => by
      rcases List.mem_cons.mp z with z | z
      · exact Nat.ne_of_lt (Nat.lt_succ_self _) z
      · exact Nat.ne_of_gt hlt (List.mem_singleton.mp z)
    rw [sz]
    refine fill (Walks.tuple (by simpa using free) (s.heap.objs.size + 1) l (Nat.ne_of_lt (Nat.lt_succ_of_lt hlt)) its) apart len (fun i v hv => ?_) (by omega) s xs 0 [] _ s.toks (by simp) (Nat.zero_le _) (Nat.le_refl _) ⟨⟨_, by rw [← sz]; exact Heap.get?_push_size _ rfl, rfl, rfl⟩, il1.push _⟩ ((txs_new s.heap).keep fun o e => Heap.get?_push_of_some _ e) fun h' tk T kp => ?_
    · have hi : i < xs.length := by rw [len]; exact (Array.getElem?_eq_some_iff.mp hv).1
      obtain ⟨v', e1, t, e2⟩ := Vals.get tx (i := i) (x := V.str xs[i]) (by simp [hi])
      rw [Array.getElem?_toList, hv] at e1
      cases e1
      exact ⟨xs[i], t, List.getElem?_eq_getElem hi, e2⟩
    · exact wpAny_pure ⟨h', tk, rfl, T, fun b o e => kp b o (below b o e).1 (below b o e).2 (Heap.get?_push_of_some _ (Heap.get?_push_of_some _ e))⟩
  refine ⟨here, ?_⟩
  unfold Builtin.«set.__init__» noKeywords
  have named : wpAny (model P w) A.in1.in1 (typeNameOfCut 200 (.ref s.heap.objs.size)) (fun _ s' => s' = { s with heap := s.heap.push (set0 w) }) (fun _ _ => False) { s with heap := s.heap.push (set0 w) } := by
    unfold typeNameOfCut shownTypeOf
    refine wpAny_bind (wpAny_bind (wpAny_typeOf here ?_))
    rw [if_neg (by decide)]
    exact wpAny_pure (wpAny_pure rfl)
  have fresh : wpAny (model P w) A.in1.in1 (setUsed s.heap.objs.size) (fun b s' => b = false ∧ s' = { s with heap := s.heap.push (set0 w) }) (fun _ _ => False) { s with heap := s.heap.push (set0 w) } :=
    wpAny_bind (wpAny_setState_of new rfl rfl (wpAny_pure ⟨rfl, rfl⟩))
  refine wpAny_bind (wpAny_pure (wpAny_bind (wpAny_mono named (fun _ s' e => ?_) fun _ _ z => z)))
  subst e
  refine wpAny_bind (wpAny_pure (wpAny_bind (wpAny_pure (wpAny_bind (wpAny_mono fresh (fun b s' ⟨e1, e2⟩ => ?_) fun _ _ z => z)))))
  subst e1; subst e2
  simp only [Bool.false_eq_true, if_false]
  refine wpAny_bind (wpAny_mono upd (fun _ s2 ⟨h', tk, e, T, kp⟩ => ?_) fun _ _ z => z)
  subst e
  exact wpAny_pure ⟨rfl, q h' tk T kp⟩
end
end M

/-! expressions: a run of data is a reading -/
namespace M
open PySem PySem.Spec PyProof.Rows L2

abbrev WS := L2.St → WD
def tD (K : PySem.W.Frag) (W : WS) (g : Ev → St' → R SV) : TE := fun σ H Q => ∃ m S ρ, StOk K H m S ∧ RelE K H m S σ ρ ∧ Run K (fun H' m' S' d => ∀ v, RepS K H' m' S' v d → Q v H') (W σ) H m S (g ρ S)
def tDA (K : PySem.W.Frag) (W : WS) (g : Ev → St' → R (List SV)) : TA := fun σ H Q => ∃ m S ρ, StOk K H m S ∧ RelE K H m S σ ρ ∧ Run K (fun H' m' S' ds => ∀ vs, RepSs K H' m' S' vs ds → Q vs H') (W σ) H m S (g ρ S)
def tDT (K : PySem.W.Frag) (W : WS) (g : Ev → St' → R Bool) : TT := fun σ H Q => ∃ m S ρ, StOk K H m S ∧ RelE K H m S σ ρ ∧ Run K (fun H' m' S' b => Q b H') (W σ) H m S (g ρ S)
def tDO (K : PySem.W.Frag) (W : WS) (g : Ev → St' → R (Option Int)) : TO := fun σ H Q => ∃ m S ρ, StOk K H m S ∧ RelE K H m S σ ρ ∧ Run K (fun H' m' S' b => Q b H') (W σ) H m S (g ρ S)
/-- a new list: it stands as the last object -/
def RunL (K : PySem.W.Frag) (Q : VK) (W : WD) (H : Hp) (m : List Addr) (S : St') : R (List D) → Prop
  | .ok xs S' => ∀ H' m' p, StOk K H' (m' ++ [p]) (S' ++ [.lst xs]) → Fr H m S H' (m' ++ [p]) (S' ++ [.lst xs]) → m <+: m' → Q (.ref p) H'
  | .exc c p S' => ∀ H' m', StOk K H' m' S' → Fr H m S H' m' S' → W c p H' m' S'
  | .bad => False
def tDL (K : PySem.W.Frag) (W : WS) (g : Ev → St' → R (List D)) : TE := fun σ H Q => ∃ m S ρ, StOk K H m S ∧ RelE K H m S σ ρ ∧ RunL K Q (W σ) H m S (g ρ S)

theorem PE_imp {X : Cx} {e : Expr} {t t' : TE} (h : PE X e t) (i : ∀ σ H Q, t' σ H Q → t σ H Q) : PE X e t' := ⟨fun pins s σ H Q I hw => h.run pins s σ H Q I (i _ _ _ hw)⟩
theorem PA_imp {X : Cx} {e : List Expr} {t t' : TA} (h : PA X e t) (i : ∀ σ H Q, t' σ H Q → t σ H Q) : PA X e t' := ⟨fun pos pins s σ H Q I hw => h.run pos pins s σ H Q I (i _ _ _ hw)⟩
theorem PT_imp {X : Cx} {e : Expr} {t t' : TT} (h : PT X e t) (i : ∀ σ H Q, t' σ H Q → t σ H Q) : PT X e t' := ⟨fun pins s σ H Q I hw => h.run pins s σ H Q I (i _ _ _ hw)⟩
theorem PW_imp {X : Cx} {e : Expr} {t t' : TT} (h : PW X e t) (i : ∀ σ H Q, t' σ H Q → t σ H Q) : PW X e t' := ⟨fun wh pins s σ H Q I hw => h.run wh pins s σ H Q I (i _ _ _ hw)⟩
theorem PO_imp {X : Cx} {e : Option Expr} {t t' : TO} (h : PO X e t) (i : ∀ σ H Q, t' σ H Q → t σ H Q) : PO X e t' := ⟨fun pins s σ H Q I hw => h.run pins s σ H Q I (i _ _ _ hw)⟩

section
variable {K : PySem.W.Frag} {W : WS} {σ : L2.St} {H : Hp} {m : List Addr} {S : St'} {ρ : Ev}
theorem tD_bind {β : Type} {P' : Hp → List Addr → St' → β → Prop} {g : Ev → St' → R SV} {f : SV → St' → R β} {Q : VK} (ok : StOk K H m S) (re : RelE K H m S σ ρ) (h : Run K P' (W σ) H m S ((g ρ S).bind f))
    (hk : ∀ x v S1 H1 m1, StOk K H1 m1 S1 → RelE K H1 m1 S1 σ ρ → Fr H m S H1 m1 S1 → RepS K H1 m1 S1 v x → Run K P' (W σ) H1 m1 S1 (f x S1) → Q v H1) : tD K W g σ H Q :=
  ⟨m, S, ρ, ok, re, h.bind fun x S1 H1 m1 ok1 f1 r1 v rv => hk x v S1 H1 m1 ok1 (re.mono f1) f1 rv r1⟩
theorem tDA_bind {β : Type} {P' : Hp → List Addr → St' → β → Prop} {g : Ev → St' → R (List SV)} {f : List SV → St' → R β} {Q : List V → Hp → Prop} (ok : StOk K H m S) (re : RelE K H m S σ ρ) (h : Run K P' (W σ) H m S ((g ρ S).bind f))
    (hk : ∀ x v S1 H1 m1, StOk K H1 m1 S1 → RelE K H1 m1 S1 σ ρ → Fr H m S H1 m1 S1 → RepSs K H1 m1 S1 v x → Run K P' (W σ) H1 m1 S1 (f x S1) → Q v H1) : tDA K W g σ H Q :=
  ⟨m, S, ρ, ok, re, h.bind fun x S1 H1 m1 ok1 f1 r1 v rv => hk x v S1 H1 m1 ok1 (re.mono f1) f1 rv r1⟩
theorem tDT_bind {β : Type} {P' : Hp → List Addr → St' → β → Prop} {g : Ev → St' → R Bool} {f : Bool → St' → R β} {Q : Bool → Hp → Prop} (ok : StOk K H m S) (re : RelE K H m S σ ρ) (h : Run K P' (W σ) H m S ((g ρ S).bind f))
    (hk : ∀ x S1 H1 m1, StOk K H1 m1 S1 → RelE K H1 m1 S1 σ ρ → Fr H m S H1 m1 S1 → Run K P' (W σ) H1 m1 S1 (f x S1) → Q x H1) : tDT K W g σ H Q :=
  ⟨m, S, ρ, ok, re, h.bind fun x S1 H1 m1 ok1 f1 r1 => hk x S1 H1 m1 ok1 (re.mono f1) f1 r1⟩
theorem tDO_bind {β : Type} {P' : Hp → List Addr → St' → β → Prop} {g : Ev → St' → R (Option Int)} {f : Option Int → St' → R β} {Q : Option Int → Hp → Prop} (ok : StOk K H m S) (re : RelE K H m S σ ρ) (h : Run K P' (W σ) H m S ((g ρ S).bind f))
    (hk : ∀ x S1 H1 m1, StOk K H1 m1 S1 → RelE K H1 m1 S1 σ ρ → Fr H m S H1 m1 S1 → Run K P' (W σ) H1 m1 S1 (f x S1) → Q x H1) : tDO K W g σ H Q :=
  ⟨m, S, ρ, ok, re, h.bind fun x S1 H1 m1 ok1 f1 r1 => hk x S1 H1 m1 ok1 (re.mono f1) f1 r1⟩
theorem RunL.mono {Q : VK} {Wd : WD} {H1 : Hp} {m1 : List Addr} {S1 : St'} {r : R (List D)} (h : RunL K Q Wd H m S r) (f : Fr H m S H1 m1 S1) : RunL K Q Wd H1 m1 S1 r := by
  cases r with
  | ok xs S' => exact fun H' m' p ok' f' hp => h H' m' p ok' (f.trans f') (f.2.trans hp)
  | exc c p S' => exact fun H' m' ok' f' => h H' m' ok' (f.trans f')
  | bad => exact h
theorem RunL.bind {α : Type} {P : Hp → List Addr → St' → α → Prop} {Q : VK} {Wd : WD} {r : R α} {f : α → St' → R (List D)} (h : RunL K Q Wd H m S (r.bind f))
    (hk : ∀ a S1 H1 m1, StOk K H1 m1 S1 → Fr H m S H1 m1 S1 → RunL K Q Wd H1 m1 S1 (f a S1) → P H1 m1 S1 a) : Run K P Wd H m S r := by
  cases r with
  | bad => exact h
  | exc c p S' => exact h
  | ok a S1 => exact fun H1 m1 ok1 f1 => hk a S1 H1 m1 ok1 f1 (RunL.mono h f1)
theorem own_take {n : Nat} {a : Addr} (h : Own (m.take n) (S.take n) a) : Own m S a := by
  obtain ⟨i, e1, o, e2, ne⟩ := h
  by_cases hi : i < n
  · rw [List.getElem?_take_of_lt hi] at e1 e2
    exact ⟨i, e1, o, e2, ne⟩
  · rw [List.getElem?_eq_none (by simp; omega)] at e1; cases e1
theorem StOk.take (ok : StOk K H m S) (n : Nat) : StOk K H (m.take n) (S.take n) := by
  refine ⟨by simp [ok.len], ok.nd.sublist (List.take_sublist _ _), fun i a o e1 e2 => ?_⟩
  have hi : i < n := by
    apply Classical.byContradiction
    intro hi
    rw [List.getElem?_eq_none (by simp; omega)] at e1; cases e1
  rw [List.getElem?_take_of_lt hi] at e1 e2
  exact (ok.at_ i a o e1 e2).mono (fun b u h n => ⟨h, fun z => n (own_take z)⟩) (fun u e => ⟨u, e⟩) fun u e _ => e
/-- the last object is data from now on -/
theorem StOk.pop {p : Addr} {xs : List D} (ok : StOk K H (m ++ [p]) (S ++ [.lst xs])) : StOk K H m S ∧ (∀ a o, H a = some o → ¬ Own (m ++ [p]) (S ++ [.lst xs]) a → H a = some o ∧ ¬ Own m S a) ∧ Rep K H (Own m S) (.ref p) (.lst xs) := by
  have hl : m.length = S.length := by have := ok.len; simpa using this
  have t := ok.take m.length
  rw [List.take_left] at t
  rw [hl, List.take_left] at t
  have no : ∀ a, ¬ Own (m ++ [p]) (S ++ [.lst xs]) a → ¬ Own m S a := fun a n ⟨i, e1, o, e2, ne⟩ => n ⟨i, by rw [List.getElem?_append_left (List.getElem?_eq_some_iff.mp e1).1]; exact e1, o, by rw [List.getElem?_append_left (List.getElem?_eq_some_iff.mp e2).1]; exact e2, ne⟩
  refine ⟨t, fun a o e n => ⟨e, no a n⟩, ?_⟩
  obtain ⟨vs, h1, h2⟩ := ok.at_ m.length p (.lst xs) (by simp) (by rw [hl]; simp)
  refine .lst ⟨.inl h1, fun z => ?_⟩ (h2.mono fun a o e n => ⟨e, no a n⟩)
  have nd := ok.nd
  rw [List.nodup_append] at nd
  exact nd.2.2 p z.mem p (by simp) rfl
theorem Fr.pop {H0 : Hp} {m0 : List Addr} {S0 : St'} {p : Addr} {xs : List D} (ok : StOk K H (m ++ [p]) (S ++ [.lst xs])) (f : Fr H0 m0 S0 H (m ++ [p]) (S ++ [.lst xs])) (hp : m0 <+: m) : Fr H0 m0 S0 H m S :=
  ⟨fun a o e n => let ⟨e1, n1⟩ := f.1 a o e n; ok.pop.2.1 a o e1 n1, hp⟩
theorem Run.opt {α : Type} {P' : Hp → List Addr → St' → α → Prop} {Wd : WD} {o : Option α} (h : Run K P' Wd H m S (R.opt o S)) (ok : StOk K H m S) : ∃ a, o = some a ∧ ∀ H', StOk K H' m S → Fr H m S H' m S → P' H' m S a := by
  cases o with
  | none => exact h.elim
  | some a => exact ⟨a, rfl, fun H' ok' f => h H' m ok' f⟩
theorem Run.okk {α : Type} {P' : Hp → List Addr → St' → α → Prop} {Wd : WD} {a : α} {S1 : St'} (h : Run K P' Wd H m S (.ok a S1)) : ∀ H' m', StOk K H' m' S1 → Fr H m S H' m' S1 → P' H' m' S1 a := h
theorem Run.opt_bind {α β : Type} {P' : Hp → List Addr → St' → β → Prop} {Wd : WD} {o : Option α} {f : α → St' → R β} (h : Run K P' Wd H m S ((R.opt o S).bind f)) : ∃ a, o = some a ∧ Run K P' Wd H m S (f a S) := by
  cases o with
  | none => exact h.elim
  | some a => exact ⟨a, rfl, h⟩
end

section
variable {X : Cx} {W : WS} {a b c : Expr} {ga gb gc : Ev → St' → R SV} {pos : Pos}
theorem pd_var {i : Nat} {x : Str} {F : FS} (hN : X.N[i]? = some x) (hv : Vis X.env.scope x) (hd : (x == ("__debug__" : Str)) = false) (hcd : (x == ("__classdict__" : Str)) = false) : PE X (.Name x pos) (tD X.K W (evalE F (.var i))) := by
  refine PE_imp (pe_var hN hv hd hcd) fun σ H Q ⟨m, S, ρ, ok, re, h⟩ => ?_
  unfold evalE at h
  split at h
  · rename_i v hv
    obtain ⟨u, e, r⟩ := re.2 i v hv
    exact ⟨u, e, h H m ok .refl u r⟩
  · exact h.elim
theorem pd_const {d : D} {v : V} {F : FS} (h : PE X a (tC v)) (hr : ∀ H N, Rep X.K H N v d) : PE X a (tD X.K W (fun _ S => .ok (.t d) S)) :=
  PE_imp h fun σ H Q ⟨m, S, ρ, ok, re, h⟩ => h H m ok .refl v (hr H _)
theorem pd_bin (o : Bn) (ha : PE X a (tD X.K W ga)) (hb : PE X b (tD X.K W gb)) : PE X (.BinOp a (opOf o) b pos) (tD X.K W fun ρ S => (ga ρ S).bind fun x S1 => (gb ρ S1).bind fun y S2 =>
      R.opt ((peek S2 x).bind fun d => (peek S2 y).bind fun e => (binD o d e).map .t) S2) := by
  refine PE_imp (pe_op (or_bin o) ha hb) fun σ H Q ⟨m, S, ρ, ok, re, h⟩ => ?_
  refine tD_bind ok re h fun x v S1 H1 m1 ok1 re1 f1 rv h1 => ?_
  refine tD_bind ok1 re1 h1 fun y u S2 H2 m2 ok2 re2 f2 ru h2 => ?_
  obtain ⟨r, e, q⟩ := Run.opt h2 ok2
  obtain ⟨d, e1, e⟩ := Option.bind_eq_some_iff.mp e
  obtain ⟨d2, e2, e⟩ := Option.bind_eq_some_iff.mp e
  obtain ⟨r', e3, rfl⟩ := Option.map_eq_some_iff.mp e
  exact ⟨m2, S2, d, d2, r', ok2, ok2.peek (rv.mono f2) e1, ok2.peek ru e2, e3, fun H' w ok' f' hw => q H' ok' f' w hw⟩
theorem pd_cmp (o : Cm) (hu : X.A.units + 65 < cLine) (hm : behindInMarks (cmOf o) b = false) (ha : PE X a (tD X.K W ga)) (hb : PE X b (tD X.K W gb)) : PE X (.Compare a [cmOf o] [b] pos) (tD X.K W fun ρ S => (ga ρ S).bind fun x S1 => (gb ρ S1).bind fun y S2 =>
      R.opt ((peek S2 x).bind fun d => (peek S2 y).bind fun e => (cmpD o d e).map fun b => .t (.bl b)) S2) := by
  refine PE_imp (pe_cmpR (or_cmp o hu) ha hb hm) fun σ H Q ⟨m, S, ρ, ok, re, h⟩ => ?_
  refine tD_bind ok re h fun x v S1 H1 m1 ok1 re1 f1 rv h1 => ?_
  refine tD_bind ok1 re1 h1 fun y u S2 H2 m2 ok2 re2 f2 ru h2 => ?_
  obtain ⟨r, e, q⟩ := Run.opt h2 ok2
  obtain ⟨d, e1, e⟩ := Option.bind_eq_some_iff.mp e
  obtain ⟨d2, e2, e⟩ := Option.bind_eq_some_iff.mp e
  obtain ⟨r', e3, rfl⟩ := Option.map_eq_some_iff.mp e
  exact ⟨m2, S2, d, d2, r', ok2, ok2.peek (rv.mono f2) e1, ok2.peek ru e2, e3, q H2 ok2 .refl _ (.bl r')⟩
theorem pt_cmpD (o : Cm) (hu : X.A.units + 65 < cLine) (hm : behindInMarks (cmOf o) b = false) (ha : PE X a (tD X.K W ga)) (hb : PE X b (tD X.K W gb)) : PT X (.Compare a [cmOf o] [b] pos) (tDT X.K W fun ρ S => tru ((ga ρ S).bind fun x S1 => (gb ρ S1).bind fun y S2 =>
      R.opt ((peek S2 x).bind fun d => (peek S2 y).bind fun e => (cmpD o d e).map fun b => .t (.bl b)) S2)) := by
  refine PT_imp (pt_cmpR (or_cmp o hu) ha hb hm) fun σ H Q ⟨m, S, ρ, ok, re, h⟩ => ?_
  simp only [tru, R.bind_assoc] at h
  refine tD_bind ok re h fun x v S1 H1 m1 ok1 re1 f1 rv h1 => ?_
  refine tD_bind ok1 re1 h1 fun y u S2 H2 m2 ok2 re2 f2 ru h2 => ?_
  obtain ⟨r, e, q⟩ := Run.opt_bind h2
  obtain ⟨d, e1, e⟩ := Option.bind_eq_some_iff.mp e
  obtain ⟨d2, e2, e⟩ := Option.bind_eq_some_iff.mp e
  obtain ⟨r', e3, rfl⟩ := Option.map_eq_some_iff.mp e
  exact ⟨m2, S2, d, d2, r', ok2, ok2.peek (rv.mono f2) e1, ok2.peek ru e2, e3, r', rfl, q H2 m2 ok2 .refl⟩
def cmp2R (o p : Cm) (ga gb gc : Ev → St' → R SV) : Ev → St' → R SV := fun ρ S => (ga ρ S).bind fun x S1 => (gb ρ S1).bind fun y S2 =>
      (R.opt ((peek S2 x).bind fun d => (peek S2 y).bind fun e => cmpD o d e) S2).bind fun k S3 =>
        if k then (gc ρ S3).bind fun z S4 => R.opt ((peek S4 y).bind fun e => (peek S4 z).bind fun f => (cmpD p e f).map fun b => .t (.bl b)) S4
        else .ok (.t (.bl false)) S3
theorem pd_cmp2 (o p : Cm) (hu : X.A.units + 65 < cLine) (ha : PE X a (tD X.K W ga)) (hb : PE X b (tD X.K W gb)) (hc : PE X c (tD X.K W gc))
    (hm : lastMarks [cmOf o, cmOf p] [b, c] = false) : PE X (.Compare a [cmOf o, cmOf p] [b, c] pos) (tD X.K W (cmp2R o p ga gb gc)) := by
  refine PE_imp (pe_chain (or_cmp o hu) (or_cmp p hu) ha hb hc hm) fun σ H Q ⟨m, S, ρ, ok, re, h⟩ => ?_
  refine tD_bind ok re h fun x v S1 H1 m1 ok1 re1 f1 rv h1 => ?_
  refine tD_bind ok1 re1 h1 fun y u S2 H2 m2 ok2 re2 f2 ru h2 => ?_
  obtain ⟨k, e, q⟩ := Run.opt_bind h2
  obtain ⟨d, e1, e⟩ := Option.bind_eq_some_iff.mp e
  obtain ⟨d2, e2, e⟩ := Option.bind_eq_some_iff.mp e
  refine ⟨m2, S2, d, d2, k, ok2, ok2.peek (rv.mono f2) e1, ok2.peek ru e2, e, k, rfl, ?_⟩
  cases k with
  | false => exact q H2 m2 ok2 .refl _ (.bl _)
  | true =>
    refine tD_bind ok2 re2 q fun z w S4 H4 m4 ok4 re4 f4 rw h4 => ?_
    obtain ⟨r, e, q⟩ := Run.opt h4 ok4
    obtain ⟨d3, e3, e⟩ := Option.bind_eq_some_iff.mp e
    obtain ⟨d4, e4, e⟩ := Option.bind_eq_some_iff.mp e
    obtain ⟨r', e5, rfl⟩ := Option.map_eq_some_iff.mp e
    exact ⟨m4, S4, d3, d4, r', ok4, ok4.peek (ru.mono f4) e3, ok4.peek rw e4, e5, q H4 ok4 .refl _ (.bl r')⟩
theorem pt_cmp2 (o p : Cm) (hu : X.A.units + 65 < cLine) (ha : PE X a (tD X.K W ga)) (hb : PE X b (tD X.K W gb)) (hc : PE X c (tD X.K W gc))
    (hm : lastMarks [cmOf o, cmOf p] [b, c] = false) : PT X (.Compare a [cmOf o, cmOf p] [b, c] pos) (tDT X.K W fun ρ S => tru (cmp2R o p ga gb gc ρ S)) := by
  refine PT_imp (pt_chain (or_cmp o hu) (or_cmp p hu) ha hb hc hm) fun σ H Q ⟨m, S, ρ, ok, re, h⟩ => ?_
  simp only [tru, cmp2R, R.bind_assoc] at h
  refine tD_bind ok re h fun x v S1 H1 m1 ok1 re1 f1 rv h1 => ?_
  refine tD_bind ok1 re1 h1 fun y u S2 H2 m2 ok2 re2 f2 ru h2 => ?_
  obtain ⟨k, e, q⟩ := Run.opt_bind h2
  obtain ⟨d, e1, e⟩ := Option.bind_eq_some_iff.mp e
  obtain ⟨d2, e2, e⟩ := Option.bind_eq_some_iff.mp e
  refine ⟨m2, S2, d, d2, k, ok2, ok2.peek (rv.mono f2) e1, ok2.peek ru e2, e, k, rfl, ?_⟩
  cases k with
  | false => exact ⟨_, rfl, q H2 m2 ok2 .refl⟩
  | true =>
    simp only [if_true, R.bind_assoc] at q
    refine tD_bind ok2 re2 q fun z w S4 H4 m4 ok4 re4 f4 rw h4 => ?_
    obtain ⟨r, e, q⟩ := Run.opt_bind h4
    obtain ⟨d3, e3, e⟩ := Option.bind_eq_some_iff.mp e
    obtain ⟨d4, e4, e⟩ := Option.bind_eq_some_iff.mp e
    obtain ⟨r', e5, rfl⟩ := Option.map_eq_some_iff.mp e
    exact ⟨m4, S4, d3, d4, r', ok4, ok4.peek (ru.mono f4) e3, ok4.peek rw e4, e5, _, rfl, q H4 m4 ok4 .refl⟩
/-- truth of a plain expression -/
theorem pt_D (ha : PE X a (tD X.K W ga)) (he : ∀ whole, isTrue a X.env whole = (do let v ← whole; standAt a.pos; holding [v] (truthy v))) : PT X a (tDT X.K W fun ρ S => tru (ga ρ S)) := by
  refine PT_imp (pt_truth ha he) fun σ H Q ⟨m, S, ρ, ok, re, h⟩ => ?_
  refine tD_bind ok re h fun x v S1 H1 m1 ok1 re1 f1 rv h1 => ?_
  obtain ⟨k, e, q⟩ := Run.opt h1 ok1
  obtain ⟨d, e1, e⟩ := Option.bind_eq_some_iff.mp e
  exact ⟨k, tru_v (ok1.peek rv e1) e, q H1 ok1 .refl⟩
theorem pd_ife {t : Ev → St' → R Bool} (hc : PT X c (tDT X.K W t)) (ha : PE X a (tD X.K W ga)) (hb : PE X b (tD X.K W gb)) : PE X (.IfExp c a b pos) (tD X.K W fun ρ S => (t ρ S).bind fun k S1 => if k then ga ρ S1 else gb ρ S1) := by
  refine PE_imp (pe_ifExp hc ha hb) fun σ H Q ⟨m, S, ρ, ok, re, h⟩ => ?_
  refine tDT_bind ok re h fun k S1 H1 m1 ok1 re1 f1 h1 => ?_
  cases k with
  | true => exact ⟨m1, S1, ρ, ok1, re1, h1⟩
  | false => exact ⟨m1, S1, ρ, ok1, re1, h1⟩
theorem pd_not {t : Ev → St' → R Bool} (ha : PE X a (tD X.K W ga)) : PE X (.UnaryOp .Not a pos) (tD X.K W fun ρ S => (tru (ga ρ S)).bind fun k S1 => .ok (.t (.bl (!k))) S1) := by
  refine PE_imp (pe_notT ha) fun σ H Q ⟨m, S, ρ, ok, re, h⟩ => ?_
  simp only [tru, R.bind_assoc] at h
  refine tD_bind ok re h fun x v S1 H1 m1 ok1 re1 f1 rv h1 => ?_
  obtain ⟨k, e, q⟩ := Run.opt_bind h1
  obtain ⟨d, e1, e⟩ := Option.bind_eq_some_iff.mp e
  exact ⟨k, tru_v (ok1.peek rv e1) e, q H1 m1 ok1 .refl _ (.bl _)⟩
theorem pt_notD {t : Ev → St' → R Bool} (ha : PT X a (tDT X.K W t)) : PT X (.UnaryOp .Not a pos) (tDT X.K W fun ρ S => (t ρ S).bind fun k S1 => .ok (!k) S1) := by
  refine PT_imp (pt_not ha) fun σ H Q ⟨m, S, ρ, ok, re, h⟩ => ?_
  exact tDT_bind ok re h fun k S1 H1 m1 ok1 re1 f1 h1 => h1 H1 m1 ok1 .refl
variable {rest : List Expr}
theorem pd_and (ha : PE X a (tD X.K W ga)) (hb : PE X (.BoolOp .And (b :: rest) pos) (tD X.K W gb)) : PE X (.BoolOp .And (a :: b :: rest) pos) (tD X.K W fun ρ S => (ga ρ S).bind fun x S1 => (R.opt ((peek S1 x).bind truD) S1).bind fun k S2 => if k then gb ρ S2 else .ok x S2) := by
  refine PE_imp (pe_andT ha hb) fun σ H Q ⟨m, S, ρ, ok, re, h⟩ => ?_
  refine tD_bind ok re h fun x v S1 H1 m1 ok1 re1 f1 rv h1 => ?_
  obtain ⟨k, e, q⟩ := Run.opt_bind h1
  obtain ⟨d, e1, e⟩ := Option.bind_eq_some_iff.mp e
  refine ⟨k, tru_v (ok1.peek rv e1) e, ?_⟩
  cases k with
  | true => exact ⟨m1, S1, ρ, ok1, re1, q⟩
  | false => exact q H1 m1 ok1 .refl v rv
theorem pd_or (ha : PE X a (tD X.K W ga)) (hb : PE X (.BoolOp .Or (b :: rest) pos) (tD X.K W gb)) : PE X (.BoolOp .Or (a :: b :: rest) pos) (tD X.K W fun ρ S => (ga ρ S).bind fun x S1 => (R.opt ((peek S1 x).bind truD) S1).bind fun k S2 => if k then .ok x S2 else gb ρ S2) := by
  refine PE_imp (pe_orT ha hb) fun σ H Q ⟨m, S, ρ, ok, re, h⟩ => ?_
  refine tD_bind ok re h fun x v S1 H1 m1 ok1 re1 f1 rv h1 => ?_
  obtain ⟨k, e, q⟩ := Run.opt_bind h1
  obtain ⟨d, e1, e⟩ := Option.bind_eq_some_iff.mp e
  refine ⟨k, tru_v (ok1.peek rv e1) e, ?_⟩
  cases k with
  | true => exact q H1 m1 ok1 .refl v rv
  | false => exact ⟨m1, S1, ρ, ok1, re1, q⟩
theorem pd_idx (hs : PlainIx b) (ha : PE X a (tD X.K W ga)) (hb : PE X b (tD X.K W gb)) : PE X (.Subscript a b pos) (tD X.K W fun ρ S => (ga ρ S).bind fun x S1 => (gb ρ S1).bind fun y S2 =>
      R.opt ((peek S2 x).bind fun d => (peek S2 y).bind fun e => (idxD d e).map .t) S2) := by
  refine PE_imp (pe_ix ix_D ha hb hs) fun σ H Q ⟨m, S, ρ, ok, re, h⟩ => ?_
  refine tD_bind ok re h fun x v S1 H1 m1 ok1 re1 f1 rv h1 => ?_
  refine tD_bind ok1 re1 h1 fun y u S2 H2 m2 ok2 re2 f2 ru h2 => ?_
  obtain ⟨r, e, q⟩ := Run.opt h2 ok2
  obtain ⟨d, e1, e⟩ := Option.bind_eq_some_iff.mp e
  obtain ⟨d2, e2, e⟩ := Option.bind_eq_some_iff.mp e
  obtain ⟨r', e3, rfl⟩ := Option.map_eq_some_iff.mp e
  exact ⟨m2, S2, d, d2, r', ok2, ok2.peek (rv.mono f2) e1, ok2.peek ru e2, e3, fun H' w ok' f' hw => q H' ok' f' w hw⟩
theorem po_D0 : PO X none (tDO X.K W fun _ S => .ok none S) := PO_imp po_none fun σ H Q ⟨m, S, ρ, ok, re, h⟩ => h H m ok .refl
theorem po_D (ha : PE X a (tD X.K W ga)) : PO X (some a) (tDO X.K W fun ρ S => (ga ρ S).bind fun v S1 => match v with
    | .t (.int i) => .ok (some i) S1
    | _ => .bad) := by
  refine PO_imp (po_some ha) fun σ H Q ⟨m, S, ρ, ok, re, h⟩ => ?_
  refine tD_bind ok re h fun x v S1 H1 m1 ok1 re1 f1 rv h1 => ?_
  cases x with
  | o i => exact h1.elim
  | t d =>
    cases d with
    | int i => exact ⟨i, RepS.int rv, h1 H1 m1 ok1 .refl⟩
    | _ => exact h1.elim
theorem pd_slc {lo hi : Option Expr} {gl gh : Ev → St' → R (Option Int)} {p2 : Pos} (ha : PE X a (tD X.K W ga)) (hl : PO X lo (tDO X.K W gl)) (hh : PO X hi (tDO X.K W gh)) : PE X (.Subscript a (.Slice lo hi none p2) pos) (tD X.K W fun ρ S => (ga ρ S).bind fun x S1 => (gl ρ S1).bind fun l S2 => (gh ρ S2).bind fun h S3 =>
      R.opt ((peek S3 x).bind fun d => (slcD d l h).map .t) S3) := by
  refine PE_imp (pe_slice sl_D ha hl hh) fun σ H Q ⟨m, S, ρ, ok, re, h⟩ => ?_
  refine tD_bind ok re h fun x v S1 H1 m1 ok1 re1 f1 rv h1 => ?_
  refine tDO_bind ok1 re1 h1 fun l S2 H2 m2 ok2 re2 f2 h2 => ?_
  refine tDO_bind ok2 re2 h2 fun u S3 H3 m3 ok3 re3 f3 h3 => ?_
  obtain ⟨r, e, q⟩ := Run.opt h3 ok3
  obtain ⟨d, e1, e⟩ := Option.bind_eq_some_iff.mp e
  obtain ⟨r', e3, rfl⟩ := Option.map_eq_some_iff.mp e
  exact ⟨m3, S3, d, r', ok3, ok3.peek ((rv.mono f2).mono f3) e1, e3, fun H' w ok' f' hw => q H' ok' f' w hw⟩
/-! ### arguments, displays -/
variable {es : List Expr} {gs : Ev → St' → R (List SV)}
theorem pa_D0 : PA X [] (tDA X.K W fun _ S => .ok [] S) := PA_imp pa_nil fun σ H Q ⟨m, S, ρ, ok, re, h⟩ => h H m ok .refl [] .nil
theorem pa_D (ha : PE X a (tD X.K W ga)) (hs : PA X es (tDA X.K W gs)) (hst : starEach (a :: es) X.env = (false, eval a X.env) :: starEach es X.env) : PA X (a :: es) (tDA X.K W fun ρ S => (ga ρ S).bind fun v S1 => (gs ρ S1).bind fun vs S2 => .ok (v :: vs) S2) := by
  refine PA_imp (pa_cons ha hs hst) fun σ H Q ⟨m, S, ρ, ok, re, h⟩ => ?_
  refine tD_bind ok re h fun x v S1 H1 m1 ok1 re1 f1 rv h1 => ?_
  exact tDA_bind ok1 re1 h1 fun xs vs S2 H2 m2 ok2 re2 f2 rvs h2 => h2 H2 m2 ok2 .refl _ (.cons (rv.mono f2) rvs)
theorem pd_tup {k : Nat} (hs : PA X es (tDA X.K W gs)) : PE X (.Tuple es k pos) (tD X.K W fun ρ S => (gs ρ S).bind fun vs S1 => match grabs S1 vs with
    | some (ds, S2) => if ds.length ≤ sizeLine then .ok (.t (.tup ds)) S2 else .bad
    | none => .bad) := by
  refine PE_imp (pe_tup hs) fun σ H Q ⟨m, S, ρ, ok, re, h⟩ => ?_
  refine tDA_bind ok re h fun xs vs S1 H1 m1 ok1 re1 f1 rvs h1 => ?_
  split at h1
  · rename_i ds S2 hg
    obtain ⟨ok2, f2, r2⟩ := ok1.grabs rvs hg
    split at h1
    · rename_i hz
      refine ⟨by rw [r2.length]; exact hz, fun p hp => ?_⟩
      exact h1 _ m1 (ok2.laid hp _).1 (f2.trans (ok2.laid hp _).2) _ (rep_tup_new ok2 hp r2)
    · exact h1.elim
  · exact h1.elim
theorem pd_lstL (hs : PA X es (tDA X.K W gs)) : PE X (.List es pos) (tDL X.K W fun ρ S => (gs ρ S).bind fun vs S1 => match grabs S1 vs with
    | some (ds, S2) => if ds.length ≤ sizeLine then .ok ds S2 else .bad
    | none => .bad) := by
  refine PE_imp (pe_lst hs) fun σ H Q ⟨m, S, ρ, ok, re, h⟩ => ?_
  refine ⟨m, S, ρ, ok, re, h.bind fun xs S1 H1 m1 ok1 f1 h1 vs rvs => ?_⟩
  split at h1
  · rename_i ds S2 hg
    obtain ⟨ok2, f2, r2⟩ := ok1.grabs rvs hg
    split at h1
    · rename_i hz
      refine ⟨by rw [r2.length]; exact hz, fun p hp => ?_⟩
      obtain ⟨ok3, f3⟩ := ok2.push hp r2
      exact h1 _ m1 p ok3 (f2.trans f3) (List.prefix_refl _)
    · exact h1.elim
  · exact h1.elim
/-- a new list as data -/
theorem pd_of_L {g : Ev → St' → R (List D)} (h : PE X a (tDL X.K W g)) : PE X a (tD X.K W fun ρ S => (g ρ S).bind fun xs S1 => .ok (.t (.lst xs)) S1) := by
  refine PE_imp h fun σ H Q ⟨m, S, ρ, ok, re, h⟩ => ⟨m, S, ρ, ok, re, ?_⟩
  dsimp only at h
  revert h
  cases g ρ S with
  | ok xs S' =>
    intro h H' m' p ok' f' hp
    exact h H' m' ok'.pop.1 (f'.pop ok' hp) _ ok'.pop.2.2
  | exc c p S' => exact id
  | bad => exact id
end
end M

/-! calls -/
namespace M
open PySem PySem.Spec PyProof.Rows L2

/-- how an exception stands: its class, its own dict -/
abbrev XR := Nat → List D → Value → Option Addr → Hp → List Addr → St' → Prop
def wOf (xr : XR) (Wx : WX) : WS := fun σ c p H m S => ∀ cls d, xr c p cls d H m S → Wx cls d σ H
/-- a call's end: as many objects as ahead -/
def RunC (K : PySem.W.Frag) (xr : XR) (Q : VK) (E : XK) (H : Hp) (m : List Addr) (S : St') : R SV → Prop
  | .ok d S' => ∀ H' v, StOk K H' m S' → Fr H m S H' m S' → RepS K H' m S' v d → Q v H'
  | .exc c p S' => ∀ H' cls d, StOk K H' m S' → Fr H m S H' m S' → xr c p cls d H' m S' → E cls d H'
  | .bad => False
/-- the promise of a def that comes to g -/
def spOf (K : PySem.W.Frag) (xr : XR) (n : Nat) (g : List SV → St' → R SV) : Sp := fun vs H Q E => vs.length = n ∧ ∃ m S ds, StOk K H m S ∧ RepSs K H m S vs ds ∧ RunC K xr Q E H m S (g ds S)

def noStar : Expr → Bool
  | .Starred _ _ => false
  | _ => true
theorem star_cons {env : Env} {e : Expr} {es : List Expr} (h : noStar e = true) : starEach (e :: es) env = (false, eval e env) :: starEach es env := by
  cases e <;> first
    | (exfalso; cases h; done)
    | (rw [starEach]; intro _ _ z; cases z)
theorem star_map (env : Env) : ∀ {es : List Expr}, es.all noStar = true → starEach es env = es.map fun e => (false, eval e env)
  | [], _ => by rw [starEach]; rfl
  | e :: es, h => by
    rw [List.all_cons, Bool.and_eq_true] at h
    rw [star_cons h.1, star_map env h.2]; rfl
theorem star_any {env : Env} {cpos : Pos} {es : List Expr} (h : es.all noStar = true) : (backTo cpos (starEach es env)).any (·.1) = false := by
  rw [star_map env h]
  simp [backTo, List.any_map]
theorem star_all {env : Env} {cpos : Pos} {es : List Expr} (h : es.all noStar = true) : (backTo cpos (starEach es env)).all (fun x => !x.1) = true := by
  rw [star_map env h]
  simp [backTo, List.all_map]
theorem few {env : Env} {cpos : Pos} {e : Expr} {es : List Expr} (h : (e :: es).all noStar = true) (hl : es.length < 20) : ((backTo cpos (starEach (e :: es) env)).all (fun x => !x.1) && (backToKw cpos (keywordEach [] env)).all (fun x => x.1.isSome)
      && decide ((e :: es).length + ([] : List Keyword).length + (if ([] : List Keyword).isEmpty then 0 else 1) < 30)) = true := by
  rw [star_all h, keywordEach]
  simp [backToKw]
  omega

section
variable {X : Cx} {W : WS} {a b c : Expr} {ga gb gc : Ev → St' → R SV} {pos p apos : Pos} {es : List Expr} {gs : Ev → St' → R (List SV)} {x : Str}
/-- a built-in by its name -/
theorem ce_bi (bi : Bi) (hc : X.calm = true) (hu : X.A.units + 70 < cLine) (hg : Gl X x) (hm : X.mg x = none) (hv : bootBuiltins x = some (bval bi)) (hn : x ≠ "__name__") (hdb : (x == ("__debug__" : Str)) = false)
    (ha : PA X (a :: es) (tDA X.K W gs)) (hst : (a :: es).all noStar = true) :
    PE X (.Call (.Name x p) (a :: es) [] pos) (tD X.K W fun ρ S => (gs ρ S).bind fun vs S1 => R.opt ((peeks S1 vs).bind fun ds => (biD bi ds).map .t) S1) := by
  have hst' := hst
  rw [List.all_cons, Bool.and_eq_true] at hst'
  have key : PE X (.Call (.Name x p) (a :: es) [] pos) (tCB (rBi X.K bi) (tDA X.K W gs)) := by
    cases bi <;> first
      | exact pe_callB (call_bi _ hc hu) hg hm hv ha hn hdb (star_cons hst'.1) (star_any hst'.2)
      | exact pe_callTy (call_bi _ hc hu) hg hm hv ha hn hdb (star_cons hst'.1) (star_any hst'.2)
  refine PE_imp key fun σ H Q ⟨m, S, ρ, ok, re, h⟩ => ?_
  refine tDA_bind ok re h fun xs vs S1 H1 m1 ok1 re1 f1 rvs h1 => ?_
  obtain ⟨r, e, q⟩ := Run.opt h1 ok1
  obtain ⟨ds, e1, e⟩ := Option.bind_eq_some_iff.mp e
  obtain ⟨r', e3, rfl⟩ := Option.map_eq_some_iff.mp e
  exact ⟨m1, S1, ds, r', ok1, ok1.peeks rvs e1, e3, fun H' w ok' f' hw => q H' ok' f' w hw⟩
/-- isinstance(a, T) -/
theorem ce_isi (t : Ty) {tx : Str} {p2 : Pos} (hg : Gl X "isinstance") (hm : X.mg "isinstance" = none) (hgt : Gl X tx) (hmt : X.mg tx = none) (hvt : bootBuiltins tx = some (.type (tyN t))) (hnt : tx ≠ "__name__") (hdt : (tx == ("__debug__" : Str)) = false)
    (ha : PE X a (tD X.K W ga)) (hst : noStar a = true) :
    PE X (.Call (.Name "isinstance" p) [a, .Name tx p2] [] pos) (tD X.K W fun ρ S => (ga ρ S).bind fun x S1 => R.opt ((peek S1 x).map fun d => .t (.bl (isiD d t))) S1) := by
  refine PE_imp (pe_callB (call_isD t) hg hm boot_isinstance (pa_cons ha (pa_cons (pe_bltn (v := .ty (tyN t)) hgt hmt hvt rfl hnt hdt) pa_nil (star_cons rfl)) (star_cons hst)) (by decide) (by decide) (star_cons hst) (star_any rfl)) fun σ H Q ⟨m, S, ρ, ok, re, h⟩ => ?_
  refine tD_bind ok re h fun x v S1 H1 m1 ok1 re1 f1 rv h1 => ?_
  obtain ⟨r, e, q⟩ := Run.opt h1 ok1
  obtain ⟨d, e1, rfl⟩ := Option.map_eq_some_iff.mp e
  exact ⟨m1, S1, v, d, rfl, ok1, ok1.peek rv e1, q H1 ok1 .refl _ (.bl _)⟩
/-- the types of a tuple of names -/
structure TysOk (X : Cx) (ts : List Ty) (es : List Expr) : Prop where
  run : PA X es (fun _ H Q => Q (ts.map fun t => V.ty (tyN t)) H)
  st : es.all noStar = true
theorem tys_nil : TysOk X [] [] := ⟨pa_nil, rfl⟩
theorem tys_cons {t : Ty} {ts : List Ty} {es : List Expr} {tx : Str} {p2 : Pos} (hgt : Gl X tx) (hmt : X.mg tx = none) (hvt : bootBuiltins tx = some (.type (tyN t))) (hnt : tx ≠ "__name__") (hdt : (tx == ("__debug__" : Str)) = false) (h : TysOk X ts es) : TysOk X (t :: ts) (.Name tx p2 :: es) :=
  ⟨PA_imp (pa_cons (pe_bltn (v := .ty (tyN t)) hgt hmt hvt rfl hnt hdt) h.run (star_cons rfl)) fun σ H Q h => h, by rw [List.all_cons, h.st]; rfl⟩
theorem ce_isit (ts : List Ty) {tes : List Expr} {k : Nat} {p2 : Pos} (hg : Gl X "isinstance") (hm : X.mg "isinstance" = none) (ht : TysOk X ts tes) (hl : ts.length ≤ 20)
    (ha : PE X a (tD X.K W ga)) (hst : noStar a = true) :
    PE X (.Call (.Name "isinstance" p) [a, .Tuple tes k p2] [] pos) (tD X.K W fun ρ S => (ga ρ S).bind fun x S1 => R.opt ((peek S1 x).map fun d => .t (.bl (ts.any fun t => isiD d t))) S1) := by
  refine PE_imp (pe_callB (call_isDs ts) hg hm boot_isinstance (pa_cons ha (pa_cons (pe_tup ht.run) pa_nil (star_cons rfl)) (star_cons hst)) (by decide) (by decide) (star_cons hst) (star_any rfl)) fun σ H Q ⟨m, S, ρ, ok, re, h⟩ => ?_
  refine tD_bind ok re h fun x v S1 H1 m1 ok1 re1 f1 rv h1 => ?_
  obtain ⟨r, e, q⟩ := Run.opt h1 ok1
  obtain ⟨d, e1, rfl⟩ := Option.map_eq_some_iff.mp e
  refine ⟨by rw [List.length_map]; exact Nat.le_trans hl (by decide), fun tp htp => ?_⟩
  have l := ok1.laid htp (.tup (ts.map fun t => V.ty (tyN t)))
  refine ⟨m1, S1, v, d, tp, rfl, upd_same, l.1, ?_, q _ l.1 l.2 _ (.bl _)⟩
  exact l.1.peek (rv.mono l.2) e1
/-- a method of a built-in type -/
theorem ce_mth (k : Mt) {name : Str} (hu : X.A.units + 65 < cLine) (pa : PlainAttrs (mty k)) (slot : Slot (mty k) name (mid k)) (hty : typeOf (.builtin (mid k)) = pure (.type "method_descriptor"))
    (ho : PE X a (tD X.K W ga)) (ha : PA X (b :: es) (tDA X.K W gs)) (hst : (b :: es).all noStar = true) (hl : es.length < 20)
    (hbase : attributeBase a name X.env (eval a X.env) = eval a X.env) (hline : (apos.endLine == pos.line) = true) :
    PE X (.Call (.Attribute a name apos) (b :: es) [] pos) (tD X.K W fun ρ S => (ga ρ S).bind fun x S1 => if ((peek S1 x).map (mtOk k)).getD false = false then .bad else (gs ρ S1).bind fun vs S2 =>
      R.opt ((peek S2 x).bind fun d => (peeks S2 vs).bind fun ds => (mthD k d ds).map .t) S2) := by
  have hst' := hst
  rw [List.all_cons, Bool.and_eq_true] at hst'
  refine PE_imp (pe_bm pa slot hty (mt_D k hu) ho ha hbase (few hst hl) hline (star_cons hst'.1) (star_any hst'.2)) fun σ H Q ⟨m, S, ρ, ok, re, h⟩ => ?_
  refine tD_bind ok re h fun x v S1 H1 m1 ok1 re1 f1 rv h1 => ?_
  split at h1
  · exact h1.elim
  · rename_i hk
    have hk : ((peek S1 x).map (mtOk k)).getD false = true := by simpa using hk
    cases e0 : peek S1 x with
    | none => rw [e0] at hk; cases hk
    | some d0 =>
    rw [e0] at hk
    refine ⟨ty_mt (ok1.peek rv e0) hk, ?_⟩
    refine tDA_bind ok1 re1 h1 fun xs vs S2 H2 m2 ok2 re2 f2 rvs h2 => ?_
    obtain ⟨r, e, q⟩ := Run.opt h2 ok2
    obtain ⟨d, e1, e⟩ := Option.bind_eq_some_iff.mp e
    obtain ⟨ds, e2, e⟩ := Option.bind_eq_some_iff.mp e
    obtain ⟨r', e3, rfl⟩ := Option.map_eq_some_iff.mp e
    exact ⟨m2, S2, d, ds, r', ok2, ok2.peek (rv.mono f2) e1, ok2.peeks rvs e2, e3, fun H' w ok' f' hw => q H' ok' f' w hw⟩
theorem attr_plain {env : Env} {o : Expr} {f : Str} (h : (match o with | .Call (.Name _ _) [] [] _ => false | _ => true) = true) : attributeBase o f env (eval o env) = eval o env := by
  unfold attributeBase
  split
  · exact absurd h (by simp)
  · rfl
/-- a def of the module -/
theorem ce_call {xr : XR} {Wx : WX} (tk : Takes X Wx) {k : Nat} {f : Addr} {fd : FuncData} {ps : List Str} {g : List SV → St' → R SV} (F : FnOk X.prog X.w X.K X.mg X.base (L2.CX X.prog X.w) k f fd ps (spOf X.K xr ps.length g)) (hl : ∀ ds S, g ds S ≠ .bad → ds.length = ps.length)
    (hr : Room k X.A) (hg : Gl X x) (hm : X.mg x = some (.ref f)) (hk : PySem.W.keepIn X.K (.ref f) = true) (hb : Binds X.K fd ps []) (hdb : (x == ("__debug__" : Str)) = false)
    (ha : PA X (a :: es) (tDA X.K (wOf xr Wx) gs)) (hst : (a :: es).all noStar = true) :
    PE X (.Call (.Name x p) (a :: es) [] pos) (tD X.K (wOf xr Wx) fun ρ S => (gs ρ S).bind fun vs S1 => g vs S1) := by
  have hst' := hst
  rw [List.all_cons, Bool.and_eq_true] at hst'
  refine PE_imp (pe_callS F hr hg hm hk hb (fun σ => passAt tk σ) ha hdb (star_cons hst'.1) (star_any hst'.2)) fun σ H Q ⟨m, S, ρ, ok, re, h⟩ => ?_
  refine tDA_bind ok re h fun xs vs S1 H1 m1 ok1 re1 f1 rvs h1 => ?_
  refine ⟨?_, m1, S1, xs, ok1, rvs, ?_⟩
  · rw [rvs.length]
    refine hl xs S1 fun z => ?_
    rw [z] at h1; exact h1
  · revert h1
    cases g xs S1 with
    | ok d S' => exact fun h1 H' v ok' f' rv => h1 H' m1 ok' f' v rv
    | exc c p S' => exact fun h1 H' cls d ok' f' hx => h1 H' m1 ok' f' cls d hx
    | bad => exact fun h1 => h1
end
end M

/-! len(set(xs)), sorted(set(xs)) of texts -/
namespace M
open PySem PySem.Spec PyProof.Rows L2
theorem dset_snoc {α : Type} [DecidableEq α] (xs : List α) (x : α) : dset (xs ++ [x]) = if x ∈ dset xs then dset xs else dset xs ++ [x] := by
  unfold dset; rw [List.foldl_append]; rfl
theorem dset_mem {α : Type} [DecidableEq α] (x : α) (xs : List α) : x ∈ dset xs ↔ x ∈ xs := by
  suffices h : ∀ (n : Nat) (xs : List α), xs.length = n → (x ∈ dset xs ↔ x ∈ xs) from h _ xs rfl
  intro n
  induction n with
  | zero => intro xs hl; cases xs with
    | nil => simp [dset]
    | cons => simp at hl
  | succ n ih =>
    intro xs hl
    obtain ⟨ys, y, rfl⟩ : ∃ ys y, xs = ys ++ [y] := ⟨xs.dropLast, xs.getLast (by intro e; rw [e] at hl; simp at hl), (List.dropLast_concat_getLast _).symm⟩
    have := ih ys (by simpa using hl)
    rw [dset_snoc]
    split
    · rename_i hy
      rw [this, List.mem_append, List.mem_singleton]
      constructor
      · exact .inl
      · rintro (h | rfl)
        · exact h
        · exact this.mp hy
    · rw [List.mem_append, this, List.mem_append]
theorem dset_len {α : Type} [DecidableEq α] (xs : List α) (x : α) : (dset (xs ++ [x])).length = if x ∈ xs then (dset xs).length else (dset xs).length + 1 := by
  rw [dset_snoc]
  by_cases h : x ∈ xs
  · rw [if_pos ((dset_mem x xs).mpr h), if_pos h]
  · rw [if_neg fun z => h ((dset_mem x xs).mp z), if_neg h, List.length_append]; rfl
theorem dset_le {α : Type} [DecidableEq α] : ∀ (n : Nat) (xs : List α), xs.length = n → (dset xs).length ≤ n := by
  intro n
  induction n with
  | zero => intro xs hl; cases xs with
    | nil => simp [dset]
    | cons => simp at hl
  | succ n ih =>
    intro xs hl
    obtain ⟨ys, y, rfl⟩ : ∃ ys y, xs = ys ++ [y] := ⟨xs.dropLast, xs.getLast (by intro e; rw [e] at hl; simp at hl), (List.dropLast_concat_getLast _).symm⟩
    have := ih ys (by simpa using hl)
    rw [dset_len]
    split <;> omega
theorem dset_nodup {α : Type} [DecidableEq α] (xs : List α) : (dset xs).Nodup := by
  suffices h : ∀ (n : Nat) (xs : List α), xs.length = n → (dset xs).Nodup from h _ xs rfl
  intro n
  induction n with
  | zero => intro xs hl; cases xs with
    | nil => simp [dset]
    | cons => simp at hl
  | succ n ih =>
    intro xs hl
    obtain ⟨ys, y, rfl⟩ : ∃ ys y, xs = ys ++ [y] := ⟨xs.dropLast, xs.getLast (by intro e; rw [e] at hl; simp at hl), (List.dropLast_concat_getLast _).symm⟩
    have := ih ys (by simpa using hl)
    rw [dset_snoc]
    split
    · exact this
    · rename_i hy
      rw [List.nodup_append]
      exact ⟨this, by simp, fun a ha b hb => by rw [List.mem_singleton.mp hb]; exact fun e => hy (e ▸ ha)⟩
theorem grow_mem (x : Str) : ∀ (xs l : List Str), x ∈ xs.foldl grow l ↔ x ∈ l ∨ x ∈ xs
  | [], l => by simp
  | y :: xs, l => by
    rw [List.foldl_cons, grow_mem x xs, List.mem_cons]
    unfold grow
    split
    · rename_i hy
      exact ⟨fun z => z.elim .inl fun z => .inr (.inr z), fun z => z.elim .inl fun z => z.elim (fun e => .inl (e ▸ hy)) .inr⟩
    · rw [List.mem_cons]
      exact ⟨fun z => z.elim (fun z => z.elim (fun e => .inr (.inl e)) .inl) fun z => .inr (.inr z), fun z => z.elim (fun z => .inl (.inr z)) fun z => z.elim (fun e => .inl (.inl e)) .inr⟩
theorem grow_perm {xs : List Str} (h : (xs.foldl grow []).Nodup) : (xs.foldl grow []).Perm (dset xs) :=
  (List.perm_ext_iff_of_nodup h (dset_nodup xs)).mpr fun k => by rw [dset_mem, grow_mem]; simp
theorem asStrs_vs {K : PySem.W.Frag} {H : Hp} {N : Addr → Prop} : ∀ {xs : List D} {ks : List Str} {vs : List V}, asStrs xs = some ks → Reps K H N vs xs → vs = ks.map V.str
  | [], _, _, e, .nil => by cases e; rfl
  | .str i :: r, ks, _, e, .cons q t => by
    obtain ⟨ks', e1, rfl⟩ := Option.map_eq_some_iff.mp e
    cases q
    rw [asStrs_vs e1 t]; rfl
  | .int _ :: _, _, _, e, _ => by cases e
  | .non :: _, _, _, e, _ => by cases e
  | .bl _ :: _, _, _, e, _ => by cases e
  | .tup _ :: _, _, _, e, _ => by cases e
  | .lst _ :: _, _, _, e, _ => by cases e
  | .dct _ :: _, _, _, e, _ => by cases e
  | .ins _ _ :: _, _, _, e, _ => by cases e
/-- outer(set(a)) -/
theorem pd_setof {X : Cx} {W : WS} {a : Expr} {ga : Ev → St' → R SV} {p p2 q pos : Pos} {nm : Str} {fn : String} {g : D → Option D} {F : List Str → D} (hn1 : nm ≠ "__name__") (hn2 : (nm == ("__debug__" : Str)) = false) (hc : X.calm = true) (hg : Gl X nm) (hm : X.mg nm = none) (hb : bootBuiltins nm = some (.builtin fn)) (hg2 : Gl X "set") (hm2 : X.mg "set" = none) (hst : noStar a = true) (ha : PE X a (tD X.K W ga))
    (hgd : ∀ d, g d = (sqOf d).bind fun xs => (asStrs xs).bind fun ks => if ks.length + 1 < scanBound then some (F ks) else none)
    (hout : ∀ pins s σ H (Q : VK) m S b ks, Inv X pins σ H s → StOk X.K H m S → TxS X.prog X.w s.heap b (ks.foldl grow []) → ks.length + 1 < scanBound → Fol X.K H m S (F ks) Q → wpAny (model X.prog X.w) X.A (call (.builtin fn) [.ref b]) (EP X pins σ Q) X.xe s) :
    PE X (.Call (.Name nm p) [.Call (.Name "set" p2) [a] [] q] [] pos) (tD X.K W fun ρ S => (ga ρ S).bind fun x S1 => R.opt (((peek S1 x).bind g).map .t) S1) := by
  refine ⟨fun pins s σ H Q I hw => ?_⟩
  refine Call_ (ld_blt (hn := hn1) (hd := hn2) I hg hm hb (PyProof.Rows.callWith_builtin1 (PyProof.Rows.args_cons ?_ rfl) rfl rfl))
  have na : starEach [a] X.env = (false, eval a X.env) :: starEach [] X.env := star_cons hst
  obtain ⟨m, S, ρ, ok, re, h⟩ := hw
  refine Call_ (ld_blt I hg2 hm2 boot_set (PyProof.Rows.callWith_type1 (PyProof.Rows.args_cons (thn (ha.run pins s σ H (fun x H1 => ∃ (l : Addr) (ks : List Str) (m1 : List Addr) (S1 : St'), x = .ref l ∧ (SqL X.K H1 l (ks.map V.str) ∨ SqT X.K H1 l (ks.map V.str)) ∧ ks.length + 1 < scanBound ∧ StOk X.K H1 m1 S1 ∧ Fol X.K H1 m1 S1 (F ks) Q) I ?_) fun v s1 ⟨x, H1, I1, r1, q1⟩ => PyProof.Rows.args_nil ?_) na) na rfl))
  · refine tD_bind ok re h fun x v S1 H1 m1 ok1 re1 f1 rv h1 => ?_
    obtain ⟨r, e, qq⟩ := Run.opt h1 ok1
    obtain ⟨r', e4, rfl⟩ := Option.map_eq_some_iff.mp e
    obtain ⟨d, e1, e5⟩ := Option.bind_eq_some_iff.mp e4
    rw [hgd] at e5
    obtain ⟨xs, e2, e6⟩ := Option.bind_eq_some_iff.mp e5
    obtain ⟨ks, e3, e7⟩ := Option.bind_eq_some_iff.mp e6
    split at e7
    · rename_i hb
      cases e7
      have pr := ok1.peek rv e1
      cases d <;> first | (cases e2; done) | skip
      · cases e2
        obtain ⟨l, vs, rfl, g1, g2⟩ := pr.tup
        cases asStrs_vs e3 g2
        exact ⟨l, ks, m1, S1, rfl, .inr g1, hb, ok1, fun H' v o f hv => qq H' o f v hv⟩
      · cases e2
        obtain ⟨l, vs, rfl, g1, g2⟩ := pr.lst
        cases asStrs_vs e3 g2
        exact ⟨l, ks, m1, S1, rfl, .inl (.inl g1), hb, ok1, fun H' v o f hv => qq H' o f v hv⟩
    · cases e7
  · obtain ⟨l, ks, m1, S1, rfl, hq, hb, ok1, q1⟩ := q1
    cases r1
    have fin : ∀ (h' : Heap) (tk : Nat), TxS X.prog X.w h' s1.heap.objs.size (ks.foldl grow []) → (∀ b o, s1.heap.get? b = some o → h'.get? b = some o) →
        wpAny (model X.prog X.w) X.A (spliced (backTo pos (starEach [] X.env))) (fun vs s₂ => wpAny (model X.prog X.w) X.A (call (.builtin fn) (Value.ref s1.heap.objs.size :: vs)) (EP X pins σ Q) X.xe s₂) X.xe { s1 with heap := h', toks := tk } := fun h' tk hS hk => by
      refine PyProof.Rows.args_nil ?_
      have I2 : Inv X pins σ H1 { s1 with heap := h', toks := tk } := I1.kept hk
      exact hout pins _ σ H1 Q m1 S1 _ ks I2 ok1 hS hb q1
    rcases hq with hq | hq
    · obtain ⟨its, r, pl, hz⟩ := I1.list hq
      exact mkset_list (I1.ok.hd hc) pl.isList (by simpa using r) hb fin
    · obtain ⟨its, r, pl, hz⟩ := I1.tuple hq
      exact mkset_tuple (I1.ok.hd hc) pl (by simpa using r) hb fin
theorem pd_lenset {X : Cx} {W : WS} {a : Expr} {ga : Ev → St' → R SV} {p p2 q pos : Pos} (hc : X.calm = true) (hg : Gl X "len") (hm : X.mg "len" = none) (hg2 : Gl X "set") (hm2 : X.mg "set" = none) (hst : noStar a = true) (ha : PE X a (tD X.K W ga)) :
    PE X (.Call (.Name "len" p) [.Call (.Name "set" p2) [a] [] q] [] pos) (tD X.K W fun ρ S => (ga ρ S).bind fun x S1 => R.opt (((peek S1 x).bind lensetD).map .t) S1) := by
  refine pd_setof (F := fun ks => .int ((dset ks).length : Nat)) (by decide) (by decide) hc hg hm boot_len hg2 hm2 hst ha (fun d => rfl) fun pins s σ H Q m S b ks I ok hS hb q => ?_
  obtain ⟨⟨D, at_, tx, -⟩, nd⟩ := hS
  have hn : D.1.size = (dset ks).length := tx.sz.trans (grow_perm nd).length_eq
  refine call_len_set at_ ⟨rfl, rfl, rfl⟩ rfl tx.fit ?_ ⟨.int ((dset ks).length : Nat), H, I.tok _, ⟨_, by rw [hn]⟩, q.here ok (.int _)⟩
  have := dset_le _ ks rfl
  unfold scanBound at hb
  omega
theorem dle_trans (a b c : D) (h1 : dle a b = true) (h2 : dle b c = true) : dle a c = true := by
  unfold dle dlt PySem.W.dataLt at *
  simp only [Bool.not_eq_true'] at *
  cases e : PyProof.Rows.lexLt itemOrd (PySem.W.keyToks (toPy c)) (PySem.W.keyToks (toPy a)) with
  | false => rfl
  | true =>
    rcases PyProof.Rows.lex_negTrans (O := itemOrd) _ (PySem.W.keyToks (toPy b)) _ e with z | z
    · rw [h2] at z; cases z
    · rw [h1] at z; cases z
theorem dle_total (a b : D) : (dle a b || dle b a) = true := by
  unfold dle dlt PySem.W.dataLt
  cases e : PyProof.Rows.lexLt itemOrd (PySem.W.keyToks (toPy b)) (PySem.W.keyToks (toPy a)) with
  | false => rfl
  | true =>
    cases e2 : PyProof.Rows.lexLt itemOrd (PySem.W.keyToks (toPy a)) (PySem.W.keyToks (toPy b)) with
    | false => rfl
    | true =>
      have := PyProof.Rows.lex_trans (O := itemOrd) _ _ _ e e2
      rw [PyProof.Rows.lex_irrefl] at this; cases this
theorem dle_toks (a b : D) (h1 : dle a b = true) (h2 : dle b a = true) : PySem.W.keyToks (toPy a) = PySem.W.keyToks (toPy b) := by
  unfold dle dlt PySem.W.dataLt at h1 h2
  simp only [Bool.not_eq_true'] at h1 h2
  exact PyProof.Rows.lex_total (O := itemOrd) _ _ h2 h1
theorem str_toks {a b : Str} (h : PySem.W.keyToks (toPy (.str a)) = PySem.W.keyToks (toPy (.str b))) : a = b := by
  simp [toPy, PySem.W.keyToks] at h
  exact PySem.W.str_of_cps (Array.toList_inj.mpr h)
theorem sort_strs {ys zs : List Str} (p : ys.Perm zs) : (ys.map D.str).mergeSort dle = (zs.map D.str).mergeSort dle := by
  have pp : ((ys.map D.str).mergeSort dle).Perm ((zs.map D.str).mergeSort dle) := (List.mergeSort_perm _ _).trans ((p.map D.str).trans (List.mergeSort_perm _ _).symm)
  refine List.Perm.eq_of_pairwise (le := fun a b => dle a b = true) (fun a b ha hb h1 h2 => ?_) (List.pairwise_mergeSort dle_trans dle_total _) (List.pairwise_mergeSort dle_trans dle_total _) pp
  obtain ⟨x, -, rfl⟩ := List.mem_map.mp (List.mem_mergeSort.mp ha)
  obtain ⟨y, -, rfl⟩ := List.mem_map.mp (List.mem_mergeSort.mp hb)
  rw [str_toks (dle_toks _ _ h1 h2)]
theorem eachOf {β : Type} {R : Value → β → Prop} {f : Value → β} : ∀ {vs : List Value}, (∀ v ∈ vs, R v (f v)) → PySem.W.EachIs R vs (vs.map f)
  | [], _ => .nil
  | v :: vs, h => .cons (h v List.mem_cons_self) (eachOf fun u hu => h u (List.mem_cons_of_mem _ hu))
theorem invMoved {X : Cx} {pins : List (Addr × Obj)} {σ : List (Option V)} {H : Hp} {s s1 : Shared} (I : Inv X pins σ H s) (k : ∀ b o, s.heap.get? b = some o → s1.heap.get? b = some o) (g : s1.gens = s.gens) (o : s1.os = s.os) : Inv X pins σ H s1 := by
  have I1 : Inv X pins σ H { s with heap := s1.heap, toks := s1.toks } := I.kept k
  exact ⟨I1.ok, o.trans I1.os, by rw [g]; exact I1.bare, I1.base, I1.loc, I1.cell, I1.free, I1.freeC, I1.pin, I1.hok, I1.len⟩
theorem cover_perm {α : Type} [DecidableEq α] : ∀ {l ts : List α}, l.Nodup → (∀ x ∈ l, x ∈ ts) → ts.length ≤ l.length → l.Perm ts
  | [], ts, _, _, h => by rw [List.length_eq_zero_iff.mp (Nat.le_zero.mp h)]
  | x :: l, ts, nd, sub, h => by
    obtain ⟨n1, n2⟩ := List.nodup_cons.mp nd
    have hx := sub x List.mem_cons_self
    have := cover_perm (l := l) (ts := ts.erase x) n2 (fun y hy => (List.mem_erase_of_ne (fun (e : y = x) => n1 (e ▸ hy))).mpr (sub y (List.mem_cons_of_mem _ hy))) (by rw [List.length_erase_of_mem hx]; simp at h; omega)
    exact (this.cons x).trans (List.perm_cons_erase hx).symm
/-- the text that a value is -/
def txV : Value → Str
  | .str x _ => x
  | _ => ""
theorem txs_vals {P : Program} {w : World} {D : Froz.SD} {l : List Str} (tx : Froz.TxOk P w D l) (nd : l.Nodup) {vs : List Value} (pm : vs.Perm (D.1.toList.map (·.2))) : (∀ v ∈ vs, ∃ t, v = .str (txV v) t) ∧ (vs.map txV).Perm l := by
  have sh : ∀ e ∈ D.1.toList, ∃ t, e.2 = .str (txV e.2) t := fun e he => by
    obtain ⟨⟨k, hk, -⟩, -⟩ := tx.el e he
    obtain ⟨t, ht⟩ := Value.isStrOf_shape (x := k) (v := e.2) hk
    exact ⟨t, by rw [ht]; rfl⟩
  have all : ∀ v ∈ vs, ∃ t, v = .str (txV v) t := fun v hv => by
    obtain ⟨e, he, rfl⟩ := List.mem_map.mp (pm.mem_iff.mp hv)
    exact sh e he
  refine ⟨all, ?_⟩
  have sub : ∀ k ∈ l, k ∈ vs.map txV := fun k hk => by
    obtain ⟨e, he, hk'⟩ := (tx.mem k).mp hk
    obtain ⟨t, ht⟩ := Value.isStrOf_shape (x := k) (v := e.2) hk'
    exact List.mem_map.mpr ⟨e.2, pm.mem_iff.mpr (List.mem_map.mpr ⟨e, he, rfl⟩), by rw [ht]; rfl⟩
  have len : (vs.map txV).length = l.length := by rw [List.length_map, pm.length_eq, List.length_map, Array.length_toList]; exact tx.sz
  exact (cover_perm nd sub (Nat.le_of_eq len)).symm
theorem pd_sortset {X : Cx} {W : WS} {a : Expr} {ga : Ev → St' → R SV} {p p2 q pos : Pos} (hu : X.A.units + 70 < cLine) (hc : X.calm = true) (hg : Gl X "sorted") (hm : X.mg "sorted" = none) (hg2 : Gl X "set") (hm2 : X.mg "set" = none) (hst : noStar a = true) (ha : PE X a (tD X.K W ga)) :
    PE X (.Call (.Name "sorted" p) [.Call (.Name "set" p2) [a] [] q] [] pos) (tD X.K W fun ρ S => (ga ρ S).bind fun x S1 => R.opt (((peek S1 x).bind sortsetD).map .t) S1) := by
  refine pd_setof (F := fun ks => .lst (((dset ks).map D.str).mergeSort dle)) (by decide) (by decide) hc hg hm PyProof.Rows.boot_sorted hg2 hm2 hst ha (fun d => rfl) fun pins s σ H Q m S b ks I ok hS hb q => ?_
  obtain ⟨⟨Dp, at_, tx, wk⟩, nd⟩ := hS
  have dl := dset_le _ ks rfl
  have small : Dp.1.size < scanBound := by rw [tx.sz, (grow_perm nd).length_eq]; omega
  refine Calls.call_function_entry PyProof.Rows.kind_sorted PyProof.Rows.plain_sorted PyProof.Rows.entry_sorted (PyProof.Rows.args_sorted1 _) ?_
  unfold Builtin.«sorted»
  refine wpAny_bind (wpAny_pure ?_)
  refine wpAny_bind (collect_set (A := X.A.in1) (es := Dp.1) (ep := Dp.2.1) (t := Dp.2.2) (I.ok.hd hc) ⟨_, at_, rfl, rfl⟩ tx.fit small wk.1 wk.2 fun s1 vs k1 hz g1 o1 pm => ?_)
  have I1 : Inv X pins σ H s1 := invMoved I k1 g1 o1
  obtain ⟨tv, pv⟩ := txs_vals tx nd pm
  have pd := pv.trans (grow_perm nd)
  have vl : vs.length ≤ sizeLine := by
    have := pd.length_eq
    rw [List.length_map] at this
    have e : scanBound = 4096 := by decide +kernel
    have e2 : sizeLine = 16777216 := by decide +kernel
    omega
  obtain ⟨f, hf⟩ : ∃ f : Value → V × D, f = fun v => (V.str (txV v), D.str (txV v)) := ⟨_, rfl⟩
  refine wpAny_bind (wpAny_newList ?_ vl)
  have hoL : (s1.heap.push (seqObj "list" vs.toArray 0)).get? s1.heap.objs.size = some (seqObj "list" vs.toArray 0) := Heap.get?_push_size _ rfl
  have e1 : PySem.W.EachIs (fun (u : Value) (b : V × D) => RelV b.1 u) vs (vs.map f) := eachOf fun v h => by
    obtain ⟨t, e⟩ := tv v h
    rw [hf]; exact ⟨t, e⟩
  have er : PySem.W.EachIs (fun (u : Value) (b : V × D) => ∃ as, Reads (s1.heap.push (seqObj "list" vs.toArray 0)) u (toPy b.2) as ∧ s1.heap.objs.size ∉ as) vs (vs.map f) := eachOf fun v h => by
    obtain ⟨t, e⟩ := tv v h
    rw [hf, e]; exact ⟨[], .str _ _, by simp⟩
  have shape : ∀ d ∈ (vs.map f).map fun b => toPy b.2, ∃ x, d = .str x := fun d hd => by
    obtain ⟨b, hb, rfl⟩ := List.mem_map.mp hd
    obtain ⟨v, -, rfl⟩ := List.mem_map.mp hb
    rw [hf]; exact ⟨_, rfl⟩
  have hal : PySem.W.AllAlike ((vs.map f).map fun b => toPy b.2) := fun d hd d' hd' => by
    obtain ⟨x, rfl⟩ := shape d hd
    obtain ⟨y, rfl⟩ := shape d' hd'
    simp [PySem.W.alike]
  have hk : PySem.W.Sortable ((vs.map f).map fun b => toPy b.2) := .inr fun d hd => by
    obtain ⟨x, rfl⟩ := shape d hd
    exact ⟨nofun, nofun⟩
  refine wpAny_bind (wpAny_holding (PySem.W.list_sort_data (s := { s1 with heap := s1.heap.push (seqObj "list" vs.toArray 0) }) (A := X.A.in1) hoL e1 er hal hk (by rw [List.length_map]; exact vl) (fun b hb => ?_) fun out hol eo => ?_))
  · obtain ⟨x, ex⟩ := shape (toPy b.2) (List.mem_map.mpr ⟨b, hb, rfl⟩)
    rw [ex]
    have h2 : X.A.in1.units ≤ X.A.units + 1 := by simp [Around.in1]
    have h3 : (PyData.str x).depth = 0 := by simp [PyData.depth]
    omega
  obtain ⟨c, he'⟩ := PyProof.Rows.sortedHeap_at (vs := vs) (out := out.toArray) hoL
  have hsort : ((vs.map f).mergeSort (PySem.W.dataLe false fun b => toPy b.2)).map (·.2) = ((dset ks).map D.str).mergeSort dle := by
    rw [PySem.W.sort_maps (r := PySem.W.dataLe false fun b : V × D => toPy b.2) (s := dle) (fun b : V × D => b.2) (fun a _ b _ => by rw [PySem.W.dataLe_eq]; rfl), List.map_map, ← sort_strs pd, List.map_map, hf]
    rfl
  have hreps : Reps X.K H (Own m S) (((vs.map f).mergeSort (PySem.W.dataLe false fun b => toPy b.2)).map (·.1)) (((dset ks).map D.str).mergeSort dle) := by
    rw [← hsort]
    refine reps_of_zip fun b hb => ?_
    obtain ⟨v, -, rfl⟩ := List.mem_map.mp (List.mem_mergeSort.mp hb)
    rw [hf]; exact .str _
  have hsz : (((vs.map f).mergeSort (PySem.W.dataLe false fun b => toPy b.2)).map (·.1)).length ≤ sizeLine := by rw [List.length_map, List.length_mergeSort, List.length_map]; exact vl
  refine wpAny_pure ⟨_, rfl, .ref _, upd H s1.heap.objs.size (.lst _), I1.laid (t' := s1.toks) (fun b u e => ?_) (Nat.le_refl _) ⟨hsz, out, c, valsEach eo, he'⟩, rfl, q.lst ok hreps _ (I1.hok.fresh (Nat.le_refl _))⟩
  have hlt := Heap.lt_size e
  rw [PyProof.Rows.sortedHeap_old (Nat.ne_of_lt hlt) (by rw [size_push']; exact Nat.lt_succ_of_lt hlt)]
  exact Heap.get?_push_of_some _ e
end M

/-! what is walked -/
namespace M
open PySem PySem.Spec PyProof.Rows L2

/-! ### enumerate(tuple) -/
set_option maxHeartbeats 1000000 in
theorem meets_enumerate_newB1 {v : Value} {o : Obj} {H : Heap → Prop} (B : Begins v o H) :
    Meets (Builtin.«enumerate.__new__» ⟨[.type "enumerate", v], []⟩) (fun _ R s => H s.heap ∧
      R (.ok (.ret (.ref (s.heap.push o).objs.size))) { s with heap := (s.heap.push o).push { cls := .type "enumerate", data := .fields #[.none, .bool false, .ref s.heap.objs.size, rawInt 0, .none, .none] } }) :=
  .of_wp fun prog w A R s h => by
    obtain ⟨hp, g, d, tk, os⟩ := s; obtain ⟨h1, h⟩ := h
    have hsub := sub_enumerate
    have q1 : ∀ {A' : Around} {E : Value → Shared → Prop} {Q : Value → Shared → Prop}, Q (.ref hp.objs.size) ⟨hp.push o, g, d, tk, os⟩ → wpAny (model prog w) A' (pyIter v) Q E ⟨hp, g, d, tk, os⟩ :=
      fun q => B.iter prog w _ _ ⟨hp, g, d, tk, os⟩ _ h1 q
    wp_walk using q1
    refine wpAny_stack_any fun st => wpAny_pure ?_
    split
    · rename_i c _ _ _ _ _
      cases (c == Value.type "enumerate")
      · wp_walk using q1
        exact ⟨_, rfl, h⟩
      · wp_walk using q1
        exact ⟨_, rfl, h⟩
    · wp_walk using q1
      exact ⟨_, rfl, h⟩
theorem enum_begins1 {prog : Program} {w : World} {A : Around} {E : Value → Shared → Prop} {s : Shared} {v : Value} {o : Obj} {H : Heap → Prop} {Q : Value → Shared → Prop} (B : Begins v o H) (h1 : H s.heap)
    (h : ∀ h', IsEnum h' (s.heap.objs.size + 1) s.heap.objs.size 0 .none → h'.get? s.heap.objs.size = some o → h'.objs.size = s.heap.objs.size + 2 →
      (∀ b o, s.heap.get? b = some o → h'.get? b = some o) → Q (.ref (s.heap.objs.size + 1)) { s with heap := h' }) :
    wpAny (model prog w) A (call (.type "enumerate") [v]) Q E s := by
  refine callType_new F.called_enumerate (by decide) (F.typeCall_enumerate_1 _) (F.newCall_enumerate_1 _) (fun obj => F.args_object_init_2 obj _) F.entry_enumerate_new
    (meets_enumerate_newB1 B) ⟨h1, ?_⟩
  have hz : (s.heap.push o).objs.size = s.heap.objs.size + 1 := Heap.size_push ..
  show _ ∧ _
  rw [hz]
  have he : IsEnum ((s.heap.push o).push { cls := .type "enumerate", data := .fields #[.none, .bool false, .ref s.heap.objs.size, rawInt 0, .none, .none] }) (s.heap.objs.size + 1) s.heap.objs.size 0 .none := by
    have := Heap.get?_push_size (s.heap.push o) (o := { cls := .type "enumerate", data := .fields #[.none, .bool false, .ref s.heap.objs.size, rawInt 0, .none, .none] }) rfl
    rw [hz] at this; exact this
  refine ⟨⟨_, he, rfl⟩, h _ he (Heap.get?_push_of_some _ (Heap.get?_push_size _ B.free)) (by rw [Heap.size_push, hz]) fun b o x => Heap.get?_push_of_some _ (Heap.get?_push_of_some _ x)⟩

def IteT (K : PySem.W.Frag) (a : Addr) : It :=
  ⟨fun i H => ∃ (xs : List V) (x : V), SqT K H a xs ∧ xs[i]? = some x, fun i H v H' => ∃ T x, v = .ref T ∧ H T = none ∧ H' = upd H T (.tup [.int (i : Nat), x]) ∧ ∀ xs, SqT K H a xs → xs[i]? = some x, fun i H => ∃ xs : List V, SqT K H a xs ∧ xs.length = i⟩
theorem turn_enumT {P : Program} {w : World} {K : PySem.W.Frag} {elts : List Expr} {kk : Nat} {tpos : Pos} (a e it : Addr) :
    Turn P w K (.Tuple elts kk tpos) (IteT K a) [e, it] e (fun i h => (∃ old, IsEnum h e it ((i : Nat) : Int) old) ∧ h.IsTupleIter it a i ∧ e ≠ it) where
  mem := by simp
  obj := fun i h st b hb => by
    obtain ⟨⟨old, he⟩, ⟨o, ho, hc, hd⟩, _⟩ := st
    have e' : b = e ∨ b = it := by simpa using hb
    rcases e' with z | z
    · rw [z]; exact ⟨_, he, fun v q => nomatch q⟩
    · rw [z]; exact ⟨o, ho, fun v q => by rw [hd] at q; cases q⟩
  keep := fun i h h' st k => let ⟨⟨old, he⟩, hi, hne⟩ := st; ⟨⟨old, k e (by simp) _ he⟩, hi.at fun o q => k it (by simp) o q, hne⟩
  item := by
    intro X hP hw hK hc i pins s σ H E I hf st hg
    subst hP hw hK
    obtain ⟨⟨old, he⟩, hit, hne⟩ := st
    obtain ⟨xs, x, hq, hx⟩ := hg
    obtain ⟨its, rv, p, hz⟩ := I.tuple hq
    obtain ⟨u, hu, ru⟩ := rv.get hx
    have hel : e < s.heap.objs.size := Heap.lt_size he
    have hil : it < s.heap.objs.size := by obtain ⟨_, q, _⟩ := hit; exact Heap.lt_size q
    have p' : s.heap.IsTuple a its.toArray := by
      obtain ⟨o, h1, h2, n, h3⟩ := p
      exact ⟨o, h1, h2, n, h3⟩
    have hai : a ≠ it := fun z => by
      subst z
      obtain ⟨o, h1, h2, _⟩ := hit
      obtain ⟨o', h1', h2', _⟩ := p'
      rw [h1] at h1'; cases h1'
      rw [h2] at h2'; injection h2' with z; exact absurd z (by decide)
    have hae : e ≠ a := fun z => by
      subst z
      obtain ⟨o', h1', h2', _⟩ := p'
      unfold IsEnum at he
      rw [he] at h1'; cases h1'
      injection h2' with z; exact absurd z (by decide)
    have hlt : i < its.toArray.size := by
      have := (List.getElem?_eq_some_iff.mp hu).1
      simpa using this
    have D := Draws.tuple (prog := X.prog) (w := X.w) (A := X.A.in1) (I.ok.hd hc) it a hai its.toArray
    refine wpAny_pyNext_enum_itemD D he ⟨hit, p'⟩ hlt hne (by simp [hne, hae]) fun u' h' tk hu' ho hst hT hsz hk => ?_
    have : u' = u := by
      have h1 : its.toArray[i]? = some u := by simpa using hu
      rw [h1] at hu'; exact (Option.some.inj hu').symm
    subst this
    refine ⟨_, rfl, wpAny_letOwnedTupleGo_enum (s := { s with heap := h', toks := tk + 1 }) ho fun h'' he' sb => ?_⟩
    have hT2 : h''.get? s.heap.objs.size = some { cls := .type "tuple", data := .seq #[.int i tk, u'] } := (sb.2 _ (Nat.ne_of_gt hel)).trans hT
    have new : ObjOk X.prog X.w (upd H s.heap.objs.size (.tup [.int (i : Nat), x])) h'' s.heap.objs.size (.tup [.int (i : Nat), x]) :=
      ⟨by show 2 ≤ sizeLine; decide, [.int i tk, u'], .cons ⟨_, rfl⟩ (.cons ru .nil), ⟨_, hT2, rfl, _, rfl⟩⟩
    have I1 : L2.Inv X pins σ (upd H s.heap.objs.size (.tup [.int (i : Nat), x])) { s with heap := h'', toks := tk + 1 } :=
      I.turnedNew (ch := [e, it]) (fun b ob hb q => (sb.2 b (fun z => hb (by simp [z]))).trans (hk b ob (fun z => hb (by simp [z])) (fun z => hb (by simp [z])) q)) hf (Nat.le_refl _) new
    refine ⟨.ref s.heap.objs.size, _, I1, rfl, ⟨_, x, rfl, I.hok.fresh (Nat.le_refl _), rfl, fun ys hy => by rw [I.tuple_inj hy hq]; exact hx⟩, ⟨⟨u', ?_⟩, hst.1.at fun o q => (sb.2 it (Ne.symm hne)).trans q, hne⟩, fun b hb => ?_⟩
    · have e1 : ((i + 1 : Nat) : Int) = (i : Int) + 1 := by omega
      rw [e1]; exact he'
    · have hb' : b < s.heap.objs.size := by
        have e' : b = e ∨ b = it := by simpa using hb
        rcases e' with z | z
        · rw [z]; exact hel
        · rw [z]; exact hil
      rw [upd_ne (Nat.ne_of_lt hb')]
      exact (hf b hb).1
  done := by
    intro X hP hw hK hc i pins s σ H E I hf st hg
    subst hP hw hK
    obtain ⟨⟨old, he⟩, hit, hne⟩ := st
    obtain ⟨xs, hq, hx⟩ := hg
    obtain ⟨its, rv, p, hz⟩ := I.tuple hq
    obtain ⟨f0, f1, f2, f3, f4, f5⟩ := hf it (by simp)
    have hl := rv.length
    have p' : s.heap.IsTuple a its.toArray := by
      obtain ⟨o, h1, h2, n, h3⟩ := p
      exact ⟨o, h1, h2, n, h3⟩
    have hai : a ≠ it := fun z => by
      subst z
      obtain ⟨o, h1, h2, _⟩ := hit
      obtain ⟨o', h1', h2', _⟩ := p'
      rw [h1] at h1'; cases h1'
      rw [h2] at h2'; injection h2' with z; exact absurd z (by decide)
    have D := Draws.tuple (prog := X.prog) (w := X.w) (A := X.A.in1) (I.ok.hd hc) it a hai its.toArray
    have hn : its.toArray.size = i := by simp; omega
    exact wpAny_pyNext_enum_endD D he (show _ from by rw [hn]; exact ⟨hit, p'⟩) fun h' eb => ⟨rfl, I.turned (t' := s.toks) (fun b o hb q => eb b o hb q) f0 f1 f3 f4 f5⟩
  self := fun A i s Q E st h => let ⟨⟨_, he⟩, _⟩ := st; wpAny_pyIter_enum he h
def iEnumT (K : PySem.W.Frag) (ta : TA) : TI := fun σ H R => ta σ H fun vs H1 => ∃ a xs, vs = [.ref a] ∧ SqT K H1 a xs ∧ R (IteT K a) H1
theorem pi_enumA {X : Cx} {e : Expr} {ta : TA} {p pos tpos : Pos} {elts : List Expr} {kk : Nat} (hg : Gl X "enumerate") (hm : X.mg "enumerate" = none) (ha : PA X [e] ta) (hs : starEach [e] X.env = [(false, eval e X.env)]) :
    PI X (.Tuple elts kk tpos) (.Call (.Name "enumerate" p) [e] [] pos) (fun σ H R => ta σ H fun vs H1 => ∃ a, vs = [.ref a] ∧ ((∃ xs, SqL X.K H1 a xs ∧ R (Ite X.K a) H1) ∨ ∃ xs, SqT X.K H1 a xs ∧ R (IteT X.K a) H1)) := by
  refine ⟨fun pins s σ H R I h => ?_⟩
  refine Call_ (ld_blt I hg hm boot_enumerate (PyProof.Rows.callWith_type1 (thn (ha.run pos pins s σ H _ I h) fun us s1 ⟨vs, H1, I1, r1, q1⟩ => ?_) hs rfl))
  obtain ⟨a, ex, q⟩ := q1
  subst ex
  cases r1 with
  | cons r rr =>
    cases rr
    cases r
    rcases q with ⟨xs, hq, q⟩ | ⟨xs, hq, q⟩
    · obtain ⟨its, rv, p', hz⟩ := I1.list hq
      refine call_enumerate_list p'.isList fun h' he hit hsz hk => wpAny_pyIter_enum he ?_
      have I2 : L2.Inv X pins σ H1 { s1 with heap := h' } := I1.kept (t' := s1.toks) hk
      refine ⟨s1.heap.objs.size + 1, [s1.heap.objs.size + 1, s1.heap.objs.size], _, _, H1, rfl, I2, turn_enum a (s1.heap.objs.size + 1) s1.heap.objs.size, ⟨⟨.none, he⟩, hit, Nat.succ_ne_self _⟩, fun b hb => ?_, q⟩
      have e' : b = s1.heap.objs.size + 1 ∨ b = s1.heap.objs.size := by simpa using hb
      have hle : s1.heap.objs.size ≤ b := by
        rcases e' with z | z
        · rw [z]; exact Nat.le_add_right _ _
        · rw [z]; exact Nat.le_refl _
      exact I1.fpOk hle (I1.hok.fresh hle)
    · obtain ⟨its, rv, p', hz⟩ := I1.tuple hq
      have p2 : s1.heap.IsTuple a its.toArray := by
        obtain ⟨o, h1, h2, n, h3⟩ := p'
        exact ⟨o, h1, h2, n, h3⟩
      refine enum_begins1 (begins_tuple a its.toArray) p2 fun h' he hit hsz hk => wpAny_pyIter_enum he ?_
      have I2 : L2.Inv X pins σ H1 { s1 with heap := h' } := I1.kept (t' := s1.toks) hk
      refine ⟨s1.heap.objs.size + 1, [s1.heap.objs.size + 1, s1.heap.objs.size], _, _, H1, rfl, I2, turn_enumT a (s1.heap.objs.size + 1) s1.heap.objs.size, ⟨⟨.none, he⟩, ⟨_, hit, rfl, rfl⟩, Nat.succ_ne_self _⟩, fun b hb => ?_, q⟩
      have e' : b = s1.heap.objs.size + 1 ∨ b = s1.heap.objs.size := by simpa using hb
      have hle : s1.heap.objs.size ≤ b := by
        rcases e' with z | z
        · rw [z]; exact Nat.le_add_right _ _
        · rw [z]; exact Nat.le_refl _
      exact I1.fpOk hle (I1.hok.fresh hle)

/-! ### what a walk gives, as data -/
structure Feeds (K : PySem.W.Frag) (J : It) (src : Src) (inv : Hp → List Addr → St' → Prop) : Prop where
  mono : ∀ H m S H' m' S', inv H m S → Fr H m S H' m' S' → inv H' m' S'
  stop : ∀ xs H m S, src = .fix xs → inv H m S → StOk K H m S → J.stop xs.length H
  item : ∀ xs i x H m S, src = .fix xs → inv H m S → StOk K H m S → xs[i]? = some x → J.go i H ∧ ∀ v H', J.yld i H v H' → StOk K H' m S ∧ Fr H m S H' m S ∧ Rep K H' (Own m S) v x
  stopL : ∀ k ys i H m S, src = .live k → inv H m S → StOk K H m S → S[k]? = some (.lst ys) → ys[i]? = none → J.stop i H
  itemL : ∀ k ys i x H m S, src = .live k → inv H m S → StOk K H m S → S[k]? = some (.lst ys) → ys[i]? = some x → J.go i H ∧ ∀ v H', J.yld i H v H' → StOk K H' m S ∧ Fr H m S H' m S ∧ Rep K H' (Own m S) v x
section
variable {K : PySem.W.Frag}
theorem feeds_list {a : Addr} {xs : List D} : Feeds K (Itl K a) (.fix xs) (fun H m S => ∃ vs, QL H (Own m S) a vs ∧ Reps K H (Own m S) vs xs) where
  mono := fun H m S H' m' S' ⟨vs, q, r⟩ f => ⟨vs, q.mono f.1, r.mono f.1⟩
  stop := fun ys H m S e ⟨vs, q, r⟩ ok => by cases e; exact ⟨vs, q.sq, by rw [r.length]; exact Nat.le_refl _⟩
  item := fun ys i x H m S e ⟨vs, q, r⟩ ok hx => by
    cases e
    obtain ⟨v, hv, rv⟩ := r.get hx
    refine ⟨⟨vs, v, q.sq, hv⟩, fun w H' hy => ?_⟩
    obtain ⟨rfl, hy⟩ := hy
    have := hy vs q.sq
    rw [hv] at this; cases this
    exact ⟨ok, .refl, rv⟩
  stopL := fun k ys i H m S e => nomatch e
  itemL := fun k ys i x H m S e => nomatch e
theorem feeds_tup {a : Addr} {xs : List D} : Feeds K (Itt K a) (.fix xs) (fun H m S => ∃ vs, QT K H (Own m S) a vs ∧ Reps K H (Own m S) vs xs) where
  mono := fun H m S H' m' S' ⟨vs, q, r⟩ f => ⟨vs, q.mono f.1, r.mono f.1⟩
  stop := fun ys H m S e ⟨vs, q, r⟩ ok => by cases e; exact ⟨vs, q.sq, by rw [r.length]; exact Nat.le_refl _⟩
  item := fun ys i x H m S e ⟨vs, q, r⟩ ok hx => by
    cases e
    obtain ⟨v, hv, rv⟩ := r.get hx
    refine ⟨⟨vs, v, q.sq, hv⟩, fun w H' hy => ?_⟩
    obtain ⟨rfl, hy⟩ := hy
    have := hy vs q.sq
    rw [hv] at this; cases this
    exact ⟨ok, .refl, rv⟩
  stopL := fun k ys i H m S e => nomatch e
  itemL := fun k ys i x H m S e => nomatch e
theorem feeds_str {x : Str} : Feeds K (Its x) (.fix (x.cps.toList.map fun c => D.str ⟨#[c]⟩)) (fun _ _ _ => True) where
  mono := fun _ _ _ _ _ _ _ _ => trivial
  stop := fun ys H m S e _ ok => by cases e; show x.cps.size ≤ _; simp
  item := fun ys i y H m S e _ ok hx => by
    cases e
    rw [List.getElem?_map] at hx
    obtain ⟨c, hc, rfl⟩ := Option.map_eq_some_iff.mp hx
    have hc' : x.cps[i]? = some c := by simpa using hc
    refine ⟨(Array.getElem?_eq_some_iff.mp hc').1, fun w H' hy => ?_⟩
    obtain ⟨rfl, c', h1, rfl⟩ := hy
    rw [hc'] at h1; cases h1
    exact ⟨ok, .refl, .str _⟩
  stopL := fun k ys i H m S e => nomatch e
  itemL := fun k ys i x H m S e => nomatch e
theorem feeds_range {lo hi : Int} {n : Nat} (hn : n = (hi - lo).toNat) : Feeds K (Itr lo n) (.fix (rangeD lo hi)) (fun _ _ _ => True) where
  mono := fun _ _ _ _ _ _ _ _ => trivial
  stop := fun ys H m S e _ ok => by cases e; show n ≤ _; simp [rangeD, hn]
  item := fun ys i y H m S e _ ok hx => by
    cases e
    unfold rangeD at hx
    rw [List.getElem?_map] at hx
    obtain ⟨c, hc, rfl⟩ := Option.map_eq_some_iff.mp hx
    obtain ⟨h1, h2⟩ := List.getElem?_eq_some_iff.mp hc
    simp at h1 h2
    subst h2
    refine ⟨by show i < n; omega, fun w H' hy => ?_⟩
    obtain ⟨rfl, rfl⟩ := hy
    exact ⟨ok, .refl, .int _⟩
  stopL := fun k ys i H m S e => nomatch e
  itemL := fun k ys i x H m S e => nomatch e
theorem enumD_get {xs : List D} {i : Nat} {y : D} (h : (enumD xs)[i]? = some y) : ∃ x, xs[i]? = some x ∧ y = .tup [.int (i : Nat), x] := by
  unfold enumD at h
  rw [List.getElem?_map] at h
  obtain ⟨p, hp, rfl⟩ := Option.map_eq_some_iff.mp h
  rw [List.getElem?_zipIdx] at hp
  obtain ⟨x, hx, rfl⟩ := Option.map_eq_some_iff.mp hp
  exact ⟨x, hx, by simp⟩
theorem feeds_enumL {a : Addr} {xs : List D} : Feeds K (Ite K a) (.fix (enumD xs)) (fun H m S => ∃ vs, QL H (Own m S) a vs ∧ Reps K H (Own m S) vs xs) where
  mono := fun H m S H' m' S' ⟨vs, q, r⟩ f => ⟨vs, q.mono f.1, r.mono f.1⟩
  stop := fun ys H m S e ⟨vs, q, r⟩ ok => by cases e; exact ⟨vs, q.sq, by rw [r.length]; simp [enumD]⟩
  item := fun ys i y H m S e ⟨vs, q, r⟩ ok hx => by
    cases e
    obtain ⟨x, hx', rfl⟩ := enumD_get hx
    obtain ⟨v, hv, rv⟩ := r.get hx'
    refine ⟨⟨vs, v, q.sq, hv⟩, fun w H' hy => ?_⟩
    obtain ⟨T, v', rfl, hT, rfl, hy⟩ := hy
    have := hy vs q.sq
    rw [hv] at this; cases this
    exact ⟨(ok.laid hT _).1, (ok.laid hT _).2, rep_tup_new ok hT (.cons (.int _) (.cons rv .nil))⟩
  stopL := fun k ys i H m S e => nomatch e
  itemL := fun k ys i x H m S e => nomatch e
theorem feeds_enumT {a : Addr} {xs : List D} : Feeds K (IteT K a) (.fix (enumD xs)) (fun H m S => ∃ vs, QT K H (Own m S) a vs ∧ Reps K H (Own m S) vs xs) where
  mono := fun H m S H' m' S' ⟨vs, q, r⟩ f => ⟨vs, q.mono f.1, r.mono f.1⟩
  stop := fun ys H m S e ⟨vs, q, r⟩ ok => by cases e; exact ⟨vs, q.sq, by rw [r.length]; simp [enumD]⟩
  item := fun ys i y H m S e ⟨vs, q, r⟩ ok hx => by
    cases e
    obtain ⟨x, hx', rfl⟩ := enumD_get hx
    obtain ⟨v, hv, rv⟩ := r.get hx'
    refine ⟨⟨vs, v, q.sq, hv⟩, fun w H' hy => ?_⟩
    obtain ⟨T, v', rfl, hT, rfl, hy⟩ := hy
    have := hy vs q.sq
    rw [hv] at this; cases this
    exact ⟨(ok.laid hT _).1, (ok.laid hT _).2, rep_tup_new ok hT (.cons (.int _) (.cons rv .nil))⟩
  stopL := fun k ys i H m S e => nomatch e
  itemL := fun k ys i x H m S e => nomatch e
theorem zipD_get {xs ys : List D} {i : Nat} {y : D} (h : (zipD xs ys)[i]? = some y) : ∃ x z, xs[i]? = some x ∧ ys[i]? = some z ∧ y = .tup [x, z] := by
  unfold zipD at h
  rw [List.getElem?_map] at h
  obtain ⟨p, hp, rfl⟩ := Option.map_eq_some_iff.mp h
  rw [List.getElem?_zip_eq_some] at hp
  exact ⟨_, _, hp.1, hp.2, rfl⟩
theorem feeds_zipL {a b : Addr} {xs ys : List D} : Feeds K (Itz K a b) (.fix (zipD xs ys)) (fun H m S => (∃ vs, QL H (Own m S) a vs ∧ Reps K H (Own m S) vs xs) ∧ ∃ vs, QL H (Own m S) b vs ∧ Reps K H (Own m S) vs ys) where
  mono := fun H m S H' m' S' ⟨⟨vs, q, r⟩, ⟨ws, q2, r2⟩⟩ f => ⟨⟨vs, q.mono f.1, r.mono f.1⟩, ⟨ws, q2.mono f.1, r2.mono f.1⟩⟩
  stop := fun zs H m S e ⟨⟨vs, q, r⟩, ⟨ws, q2, r2⟩⟩ ok => by
    cases e
    refine ⟨vs, ws, q.sq, q2.sq, ?_⟩
    rw [r.length, r2.length]; simp [zipD]; omega
  item := fun zs i y H m S e ⟨⟨vs, q, r⟩, ⟨ws, q2, r2⟩⟩ ok hx => by
    cases e
    obtain ⟨x, z, hx', hz, rfl⟩ := zipD_get hx
    obtain ⟨v, hv, rv⟩ := r.get hx'
    obtain ⟨u, hu, ru⟩ := r2.get hz
    refine ⟨⟨vs, ws, v, u, q.sq, q2.sq, hv, hu⟩, fun w H' hy => ?_⟩
    obtain ⟨T, v', u', rfl, hT, rfl, hy, hy2⟩ := hy
    have := hy vs q.sq
    rw [hv] at this; cases this
    have := hy2 ws q2.sq
    rw [hu] at this; cases this
    exact ⟨(ok.laid hT _).1, (ok.laid hT _).2, rep_tup_new ok hT (.cons rv (.cons ru .nil))⟩
  stopL := fun k ys i H m S e => nomatch e
  itemL := fun k ys i x H m S e => nomatch e
theorem feeds_zipT {a b : Addr} {xs ys : List D} : Feeds K (RZ.ItzT K a b) (.fix (zipD xs ys)) (fun H m S => (∃ vs, QT K H (Own m S) a vs ∧ Reps K H (Own m S) vs xs) ∧ ∃ vs, QT K H (Own m S) b vs ∧ Reps K H (Own m S) vs ys) where
  mono := fun H m S H' m' S' ⟨⟨vs, q, r⟩, ⟨ws, q2, r2⟩⟩ f => ⟨⟨vs, q.mono f.1, r.mono f.1⟩, ⟨ws, q2.mono f.1, r2.mono f.1⟩⟩
  stop := fun zs H m S e ⟨⟨vs, q, r⟩, ⟨ws, q2, r2⟩⟩ ok => by
    cases e
    refine ⟨vs, ws, q.sq, q2.sq, ?_⟩
    rw [r.length, r2.length]; simp [zipD]; omega
  item := fun zs i y H m S e ⟨⟨vs, q, r⟩, ⟨ws, q2, r2⟩⟩ ok hx => by
    cases e
    obtain ⟨x, z, hx', hz, rfl⟩ := zipD_get hx
    obtain ⟨v, hv, rv⟩ := r.get hx'
    obtain ⟨u, hu, ru⟩ := r2.get hz
    refine ⟨⟨vs, ws, v, u, q.sq, q2.sq, hv, hu⟩, fun w H' hy => ?_⟩
    obtain ⟨T, v', u', rfl, hT, rfl, hy, hy2⟩ := hy
    have := hy vs q.sq
    rw [hv] at this; cases this
    have := hy2 ws q2.sq
    rw [hu] at this; cases this
    exact ⟨(ok.laid hT _).1, (ok.laid hT _).2, rep_tup_new ok hT (.cons rv (.cons ru .nil))⟩
  stopL := fun k ys i H m S e => nomatch e
  itemL := fun k ys i x H m S e => nomatch e
theorem feeds_live {a : Addr} {k : Nat} : Feeds K (Itl K a) (.live k) (fun _ m _ => m[k]? = some a) where
  mono := fun H m S H' m' S' e f => by
    obtain ⟨t, rfl⟩ := f.2
    rw [List.getElem?_append_left (List.getElem?_eq_some_iff.mp e).1]; exact e
  stop := fun xs H m S e => nomatch e
  item := fun xs i x H m S e => nomatch e
  stopL := fun k' ys i H m S e hm ok hS hy => by
    cases e
    obtain ⟨vs, h1, h2⟩ := ok.at_ k a _ hm hS
    exact ⟨vs, SqL.of h1, by rw [h2.length]; exact List.getElem?_eq_none_iff.mp hy⟩
  itemL := fun k' ys i x H m S e hm ok hS hy => by
    cases e
    obtain ⟨vs, h1, h2⟩ := ok.at_ k a _ hm hS
    obtain ⟨v, hv, rv⟩ := h2.get hy
    refine ⟨⟨vs, v, SqL.of h1, hv⟩, fun w H' hy => ?_⟩
    obtain ⟨rfl, hy⟩ := hy
    have := hy vs (SqL.of h1)
    rw [hv] at this; cases this
    exact ⟨ok, .refl, rv⟩
end

/-! ### iterables -/
def tDI (K : PySem.W.Frag) (W : WS) (g : Ev → St' → R Src) : TI := fun σ H Rr => ∃ m S ρ, StOk K H m S ∧ RelE K H m S σ ρ ∧ Run K (fun H' m' S' src => ∀ J inv, Feeds K J src inv → inv H' m' S' → Rr J H') (W σ) H m S (g ρ S)
theorem PI_imp {X : Cx} {tg e : Expr} {t t' : TI} (h : PI X tg e t) (i : ∀ σ H Q, t' σ H Q → t σ H Q) : PI X tg e t' := ⟨fun pins s σ H Q I hw => h.run pins s σ H Q I (i _ _ _ hw)⟩
section
variable {X : Cx} {W : WS} {tg a b : Expr} {ga gb : Ev → St' → R SV} {pos p : Pos}
/-- a list, a tuple, a text -/
theorem pi_three {t : TE} (ha : PE X a t) : PI X tg a (fun σ H Rr => t σ H fun x H1 => (∃ a, x = .ref a ∧ (∃ xs, SqL X.K H1 a xs) ∧ Rr (Itl X.K a) H1) ∨ (∃ a, x = .ref a ∧ (∃ xs, SqT X.K H1 a xs) ∧ Rr (Itt X.K a) H1) ∨ ∃ z, x = .str z ∧ Rr (Its z) H1) := by
  refine ⟨fun pins s σ H Rr I h => ?_⟩
  refine thn (ha.run pins s σ H _ I h) fun v s1 ⟨x, H1, I1, r1, q1⟩ => ?_
  rcases q1 with ⟨a, e, ⟨xs, hq⟩, q⟩ | ⟨a, e, ⟨xs, hq⟩, q⟩ | ⟨z, e, q⟩
  · subst e
    cases r1
    obtain ⟨its, rv, p, hz⟩ := I1.list hq
    refine wpAny_pyIter_list p.isList ?_
    refine ⟨s1.heap.objs.size, [s1.heap.objs.size], _, _, H1, rfl, I1.kept (t' := s1.toks) fun b o e => Heap.get?_push_of_some _ e, turn_list a _, ⟨_, Heap.get?_push_size _ rfl, rfl, rfl⟩, fun b hb => ?_, q⟩
    have e : b = s1.heap.objs.size := by simpa using hb
    subst e
    exact I1.fpOk (Nat.le_refl _) (I1.hok.fresh (Nat.le_refl _))
  · subst e
    cases r1
    obtain ⟨its, rv, p, hz⟩ := I1.tuple hq
    refine wpAny_pyIter_tuple (show s1.heap.IsTuple a its.toArray from p) ?_
    refine ⟨s1.heap.objs.size, [s1.heap.objs.size], _, _, H1, rfl, I1.kept (t' := s1.toks) fun b o e => Heap.get?_push_of_some _ e, turn_tuple a _, ⟨_, Heap.get?_push_size _ rfl, rfl, rfl⟩, fun b hb => ?_, q⟩
    have e : b = s1.heap.objs.size := by simpa using hb
    subst e
    exact I1.fpOk (Nat.le_refl _) (I1.hok.fresh (Nat.le_refl _))
  · subst e
    obtain ⟨t, rfl⟩ := r1
    cases ha : z.cps.all (· < 128)
    · exact wpAny_pyIter_wide ha (pi_one (tk := s1.toks) I1 _ (turn_str _ z t "str_iterator" (.inr rfl)) ⟨_, Heap.get?_push_size _ rfl, rfl, rfl⟩ q)
    · exact wpAny_pyIter_ascii ha (pi_one (tk := s1.toks) I1 _ (turn_str _ z t "str_ascii_iterator" (.inl rfl)) ⟨_, Heap.get?_push_size _ rfl, rfl, rfl⟩ q)
theorem pi_D (ha : PE X a (tD X.K W ga)) : PI X tg a (tDI X.K W fun ρ S => (ga ρ S).bind fun v S1 => R.opt (srcOf S1 v) S1) := by
  refine PI_imp (pi_three ha) fun σ H Q ⟨m, S, ρ, ok, re, h⟩ => ?_
  refine tD_bind ok re h fun x v S1 H1 m1 ok1 re1 f1 rv h1 => ?_
  obtain ⟨src, e, q⟩ := Run.opt h1 ok1
  have q := q H1 ok1 .refl
  cases x with
  | o k =>
    unfold srcOf at e
    simp only at e
    split at e
    · rename_i ys hS
      cases e
      obtain ⟨a, hm, rfl⟩ := rv
      obtain ⟨vs, h2, h3⟩ := ok1.at_ k a _ hm hS
      exact .inl ⟨a, rfl, ⟨vs, SqL.of h2⟩, q _ _ feeds_live hm⟩
    · cases e
  | t d =>
    have rv : Rep X.K H1 (Own m1 S1) v d := rv
    cases rv with
    | lst q1 r1 => cases e; exact .inl ⟨_, rfl, ⟨_, q1.sq⟩, q _ _ feeds_list ⟨_, q1, r1⟩⟩
    | tup q1 r1 => cases e; exact .inr (.inl ⟨_, rfl, ⟨_, q1.sq⟩, q _ _ feeds_tup ⟨_, q1, r1⟩⟩)
    | str z => cases e; exact .inr (.inr ⟨z, rfl, q _ _ feeds_str trivial⟩)
    | _ => cases e
theorem rngOk_of {n : Int} (h : rngOk n = true) : -(2 ^ 62) ≤ n ∧ n < 2 ^ 62 := by
  unfold rngOk at h
  exact of_decide_eq_true h
theorem pi_rng1 (hg : Gl X "range") (hm : X.mg "range" = none) (hst : noStar a = true) (ha : PE X a (tD X.K W ga)) : PI X tg (.Call (.Name "range" p) [a] [] pos) (tDI X.K W fun ρ S => (ga ρ S).bind fun v S1 => match v with
    | .t (.int n) => if rngOk n then .ok (.fix (rangeD 0 n)) S1 else .bad
    | _ => .bad) := by
  have hs : starEach [a] X.env = [(false, eval a X.env)] := by rw [star_cons hst, starEach]
  refine PI_imp (pi_range1 hg hm (pa_cons ha pa_nil (star_cons hst)) hs) fun σ H Q ⟨m, S, ρ, ok, re, h⟩ => ?_
  refine tD_bind ok re h fun x v S1 H1 m1 ok1 re1 f1 rv h1 => ?_
  split at h1
  · rename_i n
    split at h1
    · rename_i hr
      cases RepS.int rv
      obtain ⟨r1, r2⟩ := rngOk_of hr
      exact ⟨n, rfl, r1, r2, h1 H1 m1 ok1 .refl _ _ (feeds_range (by simp)) trivial⟩
    · exact h1.elim
  · exact h1.elim
theorem pi_rng2 (hg : Gl X "range") (hm : X.mg "range" = none) (hst : noStar a = true) (hst2 : noStar b = true) (ha : PE X a (tD X.K W ga)) (hb : PE X b (tD X.K W gb)) : PI X tg (.Call (.Name "range" p) [a, b] [] pos) (tDI X.K W fun ρ S => (ga ρ S).bind fun v S1 => (gb ρ S1).bind fun u S2 => match v, u with
    | .t (.int i), .t (.int j) => if rngOk i && rngOk j then .ok (.fix (rangeD i j)) S2 else .bad
    | _, _ => .bad) := by
  have hs2 : starEach [b] X.env = [(false, eval b X.env)] := by rw [star_cons hst2, starEach]
  have hs : starEach [a, b] X.env = [(false, eval a X.env), (false, eval b X.env)] := by rw [star_cons hst, hs2]
  refine PI_imp (pi_range2 hg hm (pa_cons ha (pa_cons hb pa_nil (star_cons hst2)) (star_cons hst)) hs hs2) fun σ H Q ⟨m, S, ρ, ok, re, h⟩ => ?_
  refine tD_bind ok re h fun x v S1 H1 m1 ok1 re1 f1 rv h1 => ?_
  refine tD_bind ok1 re1 h1 fun y u S2 H2 m2 ok2 re2 f2 ru h2 => ?_
  split at h2
  · rename_i i j
    split at h2
    · rename_i hr
      have hr := Bool.and_eq_true_iff.mp hr
      cases RepS.int rv
      cases RepS.int ru
      obtain ⟨r1, r2⟩ := rngOk_of hr.1
      obtain ⟨r3, r4⟩ := rngOk_of hr.2
      exact ⟨i, j, rfl, ⟨r1, r2, r3, r4⟩, h2 H2 m2 ok2 .refl _ _ (feeds_range rfl) trivial⟩
    · exact h2.elim
  · exact h2.elim
theorem pi_enumD {elts : List Expr} {kk : Nat} {tpos : Pos} (hg : Gl X "enumerate") (hm : X.mg "enumerate" = none) (hst : noStar a = true) (ha : PE X a (tD X.K W ga)) : PI X (.Tuple elts kk tpos) (.Call (.Name "enumerate" p) [a] [] pos) (tDI X.K W fun ρ S => (ga ρ S).bind fun v S1 => match v with
    | .t (.lst xs) => .ok (.fix (enumD xs)) S1
    | .t (.tup xs) => .ok (.fix (enumD xs)) S1
    | _ => .bad) := by
  have hs : starEach [a] X.env = [(false, eval a X.env)] := by rw [star_cons hst, starEach]
  refine PI_imp (pi_enumA hg hm (pa_cons ha pa_nil (star_cons hst)) hs) fun σ H Q ⟨m, S, ρ, ok, re, h⟩ => ?_
  refine tD_bind ok re h fun x v S1 H1 m1 ok1 re1 f1 rv h1 => ?_
  split at h1
  · cases (show Rep X.K H1 (Own m1 S1) v (.lst _) from rv) with
    | lst q1 r1 => exact ⟨_, rfl, .inl ⟨_, q1.sq, h1 H1 m1 ok1 .refl _ _ feeds_enumL ⟨_, q1, r1⟩⟩⟩
  · cases (show Rep X.K H1 (Own m1 S1) v (.tup _) from rv) with
    | tup q1 r1 => exact ⟨_, rfl, .inr ⟨_, q1.sq, h1 H1 m1 ok1 .refl _ _ feeds_enumT ⟨_, q1, r1⟩⟩⟩
  · exact h1.elim
theorem pi_zipD {elts : List Expr} {kk : Nat} {tpos : Pos} (hg : Gl X "zip") (hm : X.mg "zip" = none) (hst : noStar a = true) (hst2 : noStar b = true) (ha : PE X a (tD X.K W ga)) (hb : PE X b (tD X.K W gb)) : PI X (.Tuple elts kk tpos) (.Call (.Name "zip" p) [a, b] [] pos) (tDI X.K W fun ρ S => (ga ρ S).bind fun v S1 => (gb ρ S1).bind fun u S2 => match v, u with
    | .t (.lst xs), .t (.lst ys) => .ok (.fix (zipD xs ys)) S2
    | .t (.tup xs), .t (.tup ys) => .ok (.fix (zipD xs ys)) S2
    | _, _ => .bad) := by
  have hall : [b].all noStar = true := by simp [hst2]
  refine PI_imp (RZ.pi_zipA hg hm (pa_cons ha (pa_cons hb pa_nil (star_cons hst2)) (star_cons hst)) (star_cons hst) (star_any hall)) fun σ H Q ⟨m, S, ρ, ok, re, h⟩ => ?_
  refine tD_bind ok re h fun x v S1 H1 m1 ok1 re1 f1 rv h1 => ?_
  refine tD_bind ok1 re1 h1 fun y u S2 H2 m2 ok2 re2 f2 ru h2 => ?_
  split at h2
  · cases (show Rep X.K H2 (Own m2 S2) v (.lst _) from rv.mono f2) with
    | lst q1 r1 => cases (show Rep X.K H2 (Own m2 S2) u (.lst _) from ru) with
      | lst q2 r2 => exact ⟨_, _, _, _, rfl, .inl ⟨q1.sq, q2.sq, h2 H2 m2 ok2 .refl _ _ feeds_zipL ⟨⟨_, q1, r1⟩, ⟨_, q2, r2⟩⟩⟩⟩
  · cases (show Rep X.K H2 (Own m2 S2) v (.tup _) from rv.mono f2) with
    | tup q1 r1 => cases (show Rep X.K H2 (Own m2 S2) u (.tup _) from ru) with
      | tup q2 r2 => exact ⟨_, _, _, _, rfl, .inr ⟨q1.sq, q2.sq, h2 H2 m2 ok2 .refl _ _ feeds_zipT ⟨⟨_, q1, r1⟩, ⟨_, q2, r2⟩⟩⟩⟩
  · exact h2.elim
end
end M

/-! targets, comprehensions -/
namespace M
open PySem PySem.Spec PyProof.Rows L2

/-! ### targets -/
def tgs : Tg → List Nat
  | .v i => [i]
  | .tp is => is
def gD (K : PySem.W.Frag) (tg : Tg) : TG := fun v σ H Q => ∃ m S ρ d ρ', StOk K H m S ∧ RelE K H m S σ ρ ∧ Rep K H (Own m S) v d ∧ bindTg tg d ρ = some ρ' ∧ ∀ σ', RelE K H m S σ' ρ' → σ'.length = σ.length → (∀ j, j ∉ tgs tg → σ'[j]? = σ[j]?) → Q σ' H
theorem PG_imp {X : Cx} {e : Expr} {t t' : TG} (h : PG X e t) (i : ∀ v σ H Q, t' v σ H Q → t v σ H Q) : PG X e t' := ⟨fun pins s σ H v u Q I r hw => h.run pins s σ H v u Q I r (i _ _ _ _ hw)⟩
theorem PGs_imp {X : Cx} {e : List Expr} {t t' : TGs} (h : PGs X e t) (i : ∀ v σ H Q, t' v σ H Q → t v σ H Q) : PGs X e t' := ⟨fun pins s σ H v u Q I r hw => h.run pins s σ H v u Q I r (i _ _ _ _ hw)⟩
/-- names one after the other -/
inductive TgsOk (X : Cx) : List Nat → List Expr → Prop
  | nil : TgsOk X [] []
  | cons {i : Nat} {is : List Nat} {x : Str} {p : Pos} {es : List Expr} : X.N[i]? = some x → Loc X.env.scope x → (X.fn x = true ∨ X.env.scope.names.lookup x = some .local) → TgsOk X is es → TgsOk X (i :: is) (.Name x p :: es)
def gDs (K : PySem.W.Frag) (is : List Nat) : TGs := fun vs σ H Q => ∃ m S ρ ds ρ', StOk K H m S ∧ RelE K H m S σ ρ ∧ Reps K H (Own m S) vs ds ∧ setTg is ds ρ = some ρ' ∧ ∀ σ', RelE K H m S σ' ρ' → σ'.length = σ.length → (∀ j, j ∉ is → σ'[j]? = σ[j]?) → Q σ' H
theorem setTg_len : ∀ {is : List Nat} {ds : List D} {ρ ρ' : Ev}, setTg is ds ρ = some ρ' → ds.length = is.length
  | [], [], _, _, _ => rfl
  | i :: is, d :: ds, ρ, ρ', h => by rw [List.length_cons, List.length_cons, setTg_len (is := is) h]
  | [], _ :: _, _, _, h => nomatch h
  | _ :: _, [], _, _, h => nomatch h
section
variable {X : Cx} {pos : Pos}
theorem pg_v {i : Nat} {x : Str} (hN : X.N.Nodup) (hi : X.N[i]? = some x) (hx : Loc X.env.scope x) (hf : X.fn x = true ∨ X.env.scope.names.lookup x = some .local) : PG X (.Name x pos) (gD X.K (.v i)) :=
  PG_imp (pg_name hN hi hx hf) fun v σ H Q ⟨m, S, ρ, d, ρ', ok, re, r, e, q⟩ => by
    cases e
    exact q _ (re.set i r) (by simp) fun j hj => List.getElem?_set_ne (fun z => hj (by simp [tgs, z]))
theorem pgs_D (hN : X.N.Nodup) : ∀ {is : List Nat} {es : List Expr}, TgsOk X is es → PGs X es (gDs X.K is) ∧ (assignEach es X.env).length = is.length ∧ (assignEach es X.env).findIdx? (·.1) = none
  | _, _, .nil => by
    refine ⟨PGs_imp pgs_nil fun vs σ H Q ⟨m, S, ρ, ds, ρ', ok, re, r, e, q⟩ => ?_, by rw [assignEach]; rfl, by rw [assignEach]; rfl⟩
    cases ds with
    | nil => cases r; cases e; exact ⟨rfl, q σ re rfl fun _ _ => rfl⟩
    | cons d ds => cases e
  | _, _, .cons (i := i) (is := is) (x := x) (p := p) (es := es) hi hx hf h => by
    obtain ⟨h1, h2, h3⟩ := pgs_D hN h
    have hs : assignEach (.Name x p :: es) X.env = (false, assign (.Name x p) X.env) :: assignEach es X.env := by rw [assignEach]; intro _ _ z; cases z
    refine ⟨PGs_imp (pgs_cons (pg_name hN hi hx hf) h1 (by rw [hs]; rfl)) fun vs σ H Q ⟨m, S, ρ, ds, ρ', ok, re, r, e, q⟩ => ?_, by rw [hs, List.length_cons, h2, List.length_cons], by rw [hs, List.findIdx?_cons]; simp [h3]⟩
    cases ds with
    | nil => cases e
    | cons d ds =>
      cases r with
      | cons r rs =>
        refine ⟨_, _, rfl, m, S, _, ds, ρ', ok, re.set i (d := .t d) r, rs, e, fun σ' re' hl hj => q σ' re' (by rw [hl]; simp) fun j hj' => ?_⟩
        rw [hj j (fun z => hj' (List.mem_cons_of_mem _ z))]
        exact List.getElem?_set_ne (fun z => hj' (by simp [z]))
theorem pg_tp {is : List Nat} {es : List Expr} {k : Nat} (hc : X.calm = true) (hN : X.N.Nodup) (h : TgsOk X is es) : PG X (.Tuple es k pos) (gD X.K (.tp is)) := by
  obtain ⟨h1, h2, h3⟩ := pgs_D hN h
  refine PG_imp (pg_tup hc h1 h2 h3) fun v σ H Q ⟨m, S, ρ, d, ρ', ok, re, r, e, q⟩ => ?_
  cases r with
  | tup q1 r1 =>
    have e : setTg is _ ρ = some ρ' := e
    exact ⟨_, _, rfl, q1.sq, by rw [r1.length]; exact setTg_len e, m, S, ρ, _, ρ', ok, re, r1, e, q⟩
  | _ => cases e
end

/-! ### no exception within -/
section
variable {K : PySem.W.Frag} {W W' : WS} {σ : L2.St} {H : Hp} {m : List Addr} {S : St'}
theorem Run.nox {α : Type} {P : Hp → List Addr → St' → α → Prop} {Wd Wd' : WD} {r : R α} (h : Run K P Wd H m S r.nox) : Run K P Wd' H m S r := by
  cases r with
  | ok a S' => exact h
  | exc c p S' => exact h.elim
  | bad => exact h
theorem Run.imp {α : Type} {P P' : Hp → List Addr → St' → α → Prop} {Wd : WD} {r : R α} (h : Run K P Wd H m S r) (i : ∀ H' m' S' a, StOk K H' m' S' → Fr H m S H' m' S' → P H' m' S' a → P' H' m' S' a) : Run K P' Wd H m S r := by
  cases r with
  | ok a S' => exact fun H' m' ok' f' => i H' m' S' a ok' f' (h H' m' ok' f')
  | exc c p S' => exact h
  | bad => exact h
theorem Run.mono {α : Type} {P : Hp → List Addr → St' → α → Prop} {Wd : WD} {H1 : Hp} {m1 : List Addr} {S1 : St'} {r : R α} (h : Run K P Wd H m S r) (f : Fr H m S H1 m1 S1) : Run K P Wd H1 m1 S1 r := by
  cases r with
  | ok a S' => exact fun H' m' ok' f' => h H' m' ok' (f.trans f')
  | exc c p S' => exact fun H' m' ok' f' => h H' m' ok' (f.trans f')
  | bad => exact h
end

/-! ### the turn of a comprehension -/
theorem wipe_get {σ : L2.St} : ∀ {vs : List Nat} {j : Nat}, j ∉ vs → (wipe σ vs)[j]? = σ[j]?
  | [], _, _ => rfl
  | v :: vs, j, h => by
    unfold wipe
    rw [List.getElem?_set_ne (fun z => h (by simp [z]))]
    exact wipe_get fun z => h (List.mem_cons_of_mem _ z)
theorem wipe_at {σ : L2.St} : ∀ {vs : List Nat} {j : Nat}, j ∈ vs → j < σ.length → (wipe σ vs)[j]? = some none
  | v :: vs, j, h, hl => by
    unfold wipe
    by_cases hv : v = j
    · subst hv
      rw [List.getElem?_set_self (by rw [wipe_length]; exact hl)]
    · rw [List.getElem?_set_ne hv]
      exact wipe_at ((List.mem_cons.mp h).resolve_left (fun z => hv z.symm)) hl
theorem wipe_eq {σ σ' : L2.St} {vs : List Nat} (hl : σ'.length = σ.length) (h : ∀ j, j ∉ vs → σ'[j]? = σ[j]?) : wipe σ' vs = wipe σ vs := by
  apply List.ext_getElem?
  intro j
  by_cases hj : j ∈ vs
  · by_cases hlt : j < σ.length
    · rw [wipe_at hj hlt, wipe_at hj (by rw [hl]; exact hlt)]
    · rw [List.getElem?_eq_none (by rw [wipe_length]; omega), List.getElem?_eq_none (by rw [wipe_length]; omega)]
  · rw [wipe_get hj, wipe_get hj, h j hj]
/-- the targets of a comprehension are set whatever stood there -/
theorem setTg_any : ∀ {is : List Nat} {ds : List D} {ρ ρ' : Ev}, setTg is ds ρ = some ρ' → ∀ ρ2 : Ev, ρ2.length = ρ.length → ∃ ρ3, setTg is ds ρ2 = some ρ3 ∧ ρ3.length = ρ.length ∧ (∀ j, j ∈ is → ρ3[j]? = ρ'[j]?) ∧ ∀ j, j ∉ is → ρ3[j]? = ρ2[j]? ∧ ρ'[j]? = ρ[j]?
  | [], [], ρ, ρ', h, ρ2, hl => by cases h; exact ⟨ρ2, rfl, hl, (fun j hj => absurd hj (by simp)), fun j _ => ⟨rfl, rfl⟩⟩
  | i :: is, d :: ds, ρ, ρ', h, ρ2, hl => by
    obtain ⟨ρ3, h1, h2, h3, h4⟩ := setTg_any (ρ := ρ.set i (some (.t d))) h (ρ2.set i (some (.t d))) (by simp [hl])
    refine ⟨ρ3, h1, by simpa using h2, fun j hj => ?_, fun j hj => ?_⟩
    · by_cases hji : j ∈ is
      · exact h3 j hji
      · have hj : j = i := (List.mem_cons.mp hj).resolve_right hji
        subst hj
        rw [(h4 j hji).1, (h4 j hji).2]
        by_cases hlt : j < ρ.length
        · rw [List.getElem?_set_self hlt, List.getElem?_set_self (by omega)]
        · rw [List.getElem?_eq_none (by simp; omega), List.getElem?_eq_none (by simp; omega)]
    · have hji : j ∉ is := fun z => hj (List.mem_cons_of_mem _ z)
      have hi : i ≠ j := fun z => hj (by simp [z])
      rw [(h4 j hji).1, (h4 j hji).2, List.getElem?_set_ne hi, List.getElem?_set_ne hi]
      exact ⟨rfl, rfl⟩
  | [], _ :: _, _, _, h, _, _ => nomatch h
  | _ :: _, [], _, _, h, _, _ => nomatch h
def wipeE (ρ : Ev) : List Nat → Ev
  | [] => ρ
  | v :: vs => (wipeE ρ vs).set v none
theorem wipeE_length (ρ : Ev) : ∀ vs : List Nat, (wipeE ρ vs).length = ρ.length
  | [] => rfl
  | v :: vs => by unfold wipeE; rw [List.length_set, wipeE_length ρ vs]
theorem wipeE_get {ρ : Ev} : ∀ {vs : List Nat} {j : Nat}, j ∉ vs → (wipeE ρ vs)[j]? = ρ[j]?
  | [], _, _ => rfl
  | v :: vs, j, h => by
    unfold wipeE
    rw [List.getElem?_set_ne (fun z => h (by simp [z]))]
    exact wipeE_get fun z => h (List.mem_cons_of_mem _ z)
theorem RelE.wipe {K : PySem.W.Frag} {H : Hp} {m : List Addr} {S : St'} {σ : L2.St} {ρ : Ev} (h : RelE K H m S σ ρ) : ∀ vs : List Nat, RelE K H m S (L2.wipe σ vs) (wipeE ρ vs)
  | [] => h
  | v :: vs => by
    have ih := h.wipe vs
    refine ⟨by unfold L2.wipe wipeE; simp [ih.1], fun i d e => ?_⟩
    unfold wipeE at e
    unfold L2.wipe
    by_cases hi : v = i
    · subst hi
      by_cases hl : v < (wipeE ρ vs).length
      · rw [List.getElem?_set_self hl] at e; cases e
      · rw [List.getElem?_eq_none (by simp; omega)] at e; cases e
    · rw [List.getElem?_set_ne hi] at e ⊢
      exact ih.2 i d e
/-- two runs of slots that agree but for none -/
theorem RelE.of_bind {K : PySem.W.Frag} {H : Hp} {m : List Addr} {S : St'} {tg : Tg} {d : D} {ρ ρ' : Ev} (h : bindTg tg d ρ = some ρ') : ∃ ρ3, bindTg tg d (wipeE ρ (tgs tg)) = some ρ3 ∧ ∀ σ, RelE K H m S σ ρ3 → (∀ j e, j ∉ tgs tg → ρ[j]? = some (some e) → ∃ v, σ[j]? = some (some v) ∧ RepS K H m S v e) → RelE K H m S σ ρ' := by
  cases tg with
  | v i =>
    cases h
    refine ⟨_, rfl, fun σ re hj => ⟨?_, fun j e he => ?_⟩⟩
    · have := re.1; simpa [wipeE_length] using this
    · by_cases hji : i = j
      · subst hji
        have hlt : i < ρ.length := by have := (List.getElem?_eq_some_iff.mp he).1; simpa using this
        refine re.2 i e ?_
        rw [List.getElem?_set_self hlt] at he
        rw [List.getElem?_set_self (by rw [wipeE_length]; exact hlt)]; exact he
      · rw [List.getElem?_set_ne hji] at he
        exact hj j e (fun z => hji (Eq.symm (by simpa [tgs] using z))) he
  | tp is =>
    cases d with
    | tup ds =>
      obtain ⟨ρ3, h1, h2, h3, h4⟩ := setTg_any (show setTg is ds ρ = some ρ' from h) (wipeE ρ is) (wipeE_length _ _)
      refine ⟨ρ3, h1, fun σ re hj => ⟨?_, fun j e he => ?_⟩⟩
      · obtain ⟨ρ4, _, h5, _, _⟩ := setTg_any (show setTg is ds ρ = some ρ' from h) ρ rfl
        have e4 : ρ4 = ρ' := by
          rename_i hh _ _
          rw [show setTg is ds ρ = some ρ' from h] at hh
          exact (Option.some.inj hh).symm
        rw [re.1, h2, ← h5, e4]
      · by_cases hji : j ∈ is
        · exact re.2 j e (by rw [h3 j hji]; exact he)
        · rw [(h4 j hji).2] at he
          exact hj j e hji he
    | _ => cases h
end M

/-! comprehensions -/
namespace M
open PySem PySem.Spec PyProof.Rows L2

theorem take_prefix {m1 m' : List Addr} {L : Addr} (h : (m1 ++ [L]) <+: m') : m'.take (m1.length + 1) = m1 ++ [L] := by
  obtain ⟨t, rfl⟩ := h
  rw [List.take_append_of_le_length (by simp), List.take_of_length_le (by simp)]
theorem prefix_at {m1 m' : List Addr} {L : Addr} (h : (m1 ++ [L]) <+: m') : m'[m1.length]? = some L := by
  obtain ⟨t, rfl⟩ := h
  rw [List.getElem?_append_left (by simp)]
  simp
section
variable {K : PySem.W.Frag} {W0 : WS} {Wd : WD} {σ : L2.St} {ρ : Ev} {H1 : Hp} {m1 : List Addr} {S1 : St'} {L : Addr} {Q : VK} {tg : Tg} {gc : Ev → St' → R Bool} {ge : Ev → St' → R SV}
theorem RunL.bindAt {α : Type} {P : Hp → List Addr → St' → α → Prop} {H : Hp} {m : List Addr} {S : St'} {r : R α} {f : α → St' → R (List D)} (h : RunL K Q Wd H1 m1 S1 (r.bind f)) (fr : Fr H1 m1 S1 H m S)
    (hk : ∀ a S2 H2 m2, StOk K H2 m2 S2 → Fr H m S H2 m2 S2 → RunL K Q Wd H1 m1 S1 (f a S2) → P H2 m2 S2 a) : Run K P Wd H m S r := by
  cases r with
  | bad => exact h
  | exc c p S' => exact fun H' m' ok' f' => h H' m' ok' (fr.trans f')
  | ok a S2 => exact fun H2 m2 ok2 f2 => hk a S2 H2 m2 ok2 f2 h
/-- between two turns: the new list at L is the object behind m1 -/
structure LcAt (K : PySem.W.Frag) (σ : L2.St) (ρ : Ev) (H1 : Hp) (m1 : List Addr) (S1 : St') (L : Addr) (inv : Hp → List Addr → St' → Prop) (H : Hp) (m : List Addr) (S : St') : Prop where
  ok : StOk K H m S
  pre : (m1 ++ [L]) <+: m
  re : RelE K H m S σ ρ
  iv : inv H m S
  fr : Fr H1 m1 S1 H m S
theorem LcAt.step {inv : Hp → List Addr → St' → Prop} {H H' : Hp} {m m' : List Addr} {S S' : St'} (a : LcAt K σ ρ H1 m1 S1 L inv H m S) (mono : ∀ H m S H' m' S', inv H m S → Fr H m S H' m' S' → inv H' m' S') (ok : StOk K H' m' S') (f : Fr H m S H' m' S') : LcAt K σ ρ H1 m1 S1 L inv H' m' S' :=
  ⟨ok, a.pre.trans f.2, a.re.mono f, mono _ _ _ _ _ _ a.iv f, a.fr.trans f⟩
theorem lc_end {inv : Hp → List Addr → St' → Prop} {H : Hp} {m : List Addr} {S : St'} (hk : m1.length = S1.length) (a : LcAt K σ ρ H1 m1 S1 L inv H m S) (h : RunL K Q Wd H1 m1 S1 (lcEnd S1.length S)) : Q (.ref L) H := by
  unfold lcEnd at h
  split at h
  · rename_i acc hS
    have hlt : S1.length < S.length := (List.getElem?_eq_some_iff.mp hS).1
    have e1 : S.take (S1.length + 1) = S.take S1.length ++ [.lst acc] := by rw [List.take_add_one, hS]; rfl
    have e2 : m.take (S1.length + 1) = m1 ++ [L] := by rw [← hk]; exact take_prefix a.pre
    have t := a.ok.take (S1.length + 1)
    have f : Fr H1 m1 S1 H (m1 ++ [L]) (S.take S1.length ++ [.lst acc]) := by
      refine ⟨fun b o e n => ?_, ⟨[L], rfl⟩⟩
      obtain ⟨h1, h2⟩ := a.fr.1 b o e n
      refine ⟨h1, fun z => h2 ?_⟩
      rw [← e1, ← e2] at z
      exact own_take z
    rw [e1, e2] at t
    exact h H m1 L t f (List.prefix_refl _)
  · exact h.elim
theorem lc_turn {inv : Hp → List Addr → St' → Prop} (mono : ∀ H m S H' m' S', inv H m S → Fr H m S H' m' S' → inv H' m' S') {H : Hp} {m : List Addr} {S : St'} {x : D} {v : V} {rest : Unit → St' → R (List D)} (hk : m1.length = S1.length)
    (a : LcAt K σ ρ H1 m1 S1 L inv H m S) (rv : Rep K H (Own m S) v x) (h : RunL K Q Wd H1 m1 S1 ((lcTurn tg gc ge S1.length x ρ S).bind rest)) :
    gD K tg v (wipe σ (tgs tg)) H fun σ2 H2 => wipe σ2 (tgs tg) = wipe σ (tgs tg) ∧ tDT K W0 gc σ2 H2 fun b H3 =>
      if b = true then tD K W0 ge σ2 H3 fun y H4 => ∃ acc, H4 L = some (.lst acc) ∧ acc.length < sizeLine ∧ (∃ m' S', LcAt K σ ρ H1 m1 S1 L inv (upd H4 L (.lst (acc ++ [y]))) m' S' ∧ RunL K Q Wd H1 m1 S1 (rest () S'))
      else ∃ m' S', LcAt K σ ρ H1 m1 S1 L inv H3 m' S' ∧ RunL K Q Wd H1 m1 S1 (rest () S') := by
  unfold lcTurn at h
  split at h
  · exact h.elim
  · rename_i ρ' hb
    obtain ⟨ρ3, hb3, hre⟩ := RelE.of_bind (K := K) (H := H) (m := m) (S := S) hb
    refine ⟨m, S, wipeE ρ (tgs tg), x, ρ3, a.ok, a.re.wipe _, rv, hb3, fun σ2 re2 hl2 hj2 => ⟨?_, ?_⟩⟩
    · have := wipe_eq (vs := tgs tg) hl2 hj2
      rw [this]
      exact wipe_eq (wipe_length _ _) fun j hj => wipe_get hj
    · have re3 : RelE K H m S σ2 ρ' := hre σ2 re2 fun j e hj he => by
        obtain ⟨u, h1, h2⟩ := a.re.2 j e he
        exact ⟨u, by rw [hj2 j hj, wipe_get hj]; exact h1, h2⟩
      rw [R.bind_assoc] at h
      refine ⟨m, S, ρ', a.ok, re3, Run.nox (Wd := Wd) (RunL.bindAt h a.fr fun b S2 H2 m2 ok2 f2 h2 => ?_)⟩
      have a2 := a.step mono ok2 f2
      cases b with
      | false => exact ⟨m2, S2, a2, h2⟩
      | true =>
        simp only [if_true, R.bind_assoc] at h2 ⊢
        refine ⟨m2, S2, ρ', ok2, re3.mono f2, Run.nox (Wd := Wd) (RunL.bindAt h2 a2.fr fun y S3 H3 m3 ok3 f3 h3 u ru => ?_)⟩
        have a3 := a2.step mono ok3 f3
        unfold lcPut at h3
        split at h3
        · rename_i xd S4 hg
          obtain ⟨ok4, f4, r4⟩ := ok3.grab ru hg
          have a4 := a3.step mono ok4 f4
          split at h3
          · rename_i acc hS
            split at h3
            · rename_i hz
              have hL : m3[S1.length]? = some L := by rw [← hk]; exact prefix_at a4.pre
              obtain ⟨vs, g1, g2⟩ := ok4.at_ _ _ _ hL hS
              obtain ⟨ok5, f5⟩ := ok4.write hL hS (fun z => nomatch z) (g2.append (.cons r4 .nil))
              exact ⟨vs, g1, by rw [g2.length]; exact hz, m3, _, a4.step mono ok5 f5, h3⟩
            · exact h3.elim
          · exact h3.elim
        · exact h3.elim
end
section
variable {X : Cx} {W W0 : WS} {pos : Pos}
theorem pd_lcL {elt tge iter : Expr} {ifs : List Expr} {scope : Scope} {own : List (Str × Nat)} {tg : Tg} {gi : Ev → St' → R Src} {gc : Ev → St' → R Bool} {ge : Ev → St' → R SV} (hc : X.calm = true) (hN : X.N.Nodup) (hi : PI X tge iter (tDI X.K W gi)) (ok : BlkOk X.N X.env.scope scope own) (hown : own.map (·.2) = tgs tg)
    (hg : ∀ (s : Shared) (H : Hp) (C : Addr) (cl : List (Str × Addr)) (fp : List Addr), PG (X.blk s H scope (compEnvC scope cl C X.env) fp) tge (gD X.K tg)) (ht : ∀ (s : Shared) (H : Hp) (C : Addr) (cl : List (Str × Addr)) (fp : List Addr), PTs (X.blk s H scope (compEnvC scope cl C X.env) fp) ifs (tDT X.K W0 gc))
    (he : ∀ (s : Shared) (H : Hp) (C : Addr) (cl : List (Str × Addr)) (fp : List Addr), PE (X.blk s H scope (compEnvC scope cl C X.env) fp) elt (tD X.K W0 ge)) (hs : ∀ x, foldedSetIterable iter X.env x = pure x) :
    ∀ σ H Q, tDL X.K W (fun ρ S => (gi ρ S).bind fun src S1 => lcSrc tg gc ge src ρ S1) σ H Q → tLc (tDI X.K W gi) (gD X.K tg) (tDT X.K W0 gc) (tD X.K W0 ge) (own.map (·.2)) σ H Q := by
  intro σ H Q ⟨m, S, ρ, ok0, re, h⟩
  rw [hown]
  refine ⟨m, S, ρ, ok0, re, RunL.bind h fun src S1 H1 m1 ok1 f1 h1 J inv fd iv L hL => ?_⟩
  have re1 := re.mono f1
  obtain ⟨ok2, f2⟩ := ok1.push hL (vs := []) (xs := []) .nil
  have a2 : LcAt X.K σ ρ H1 m1 S1 L inv (upd H1 L (.lst [])) (m1 ++ [L]) (S1 ++ [.lst []]) := ⟨ok2, List.prefix_refl _, re1.mono f2, fd.mono _ _ _ _ _ _ iv f2, f2⟩
  cases src with
  | fix xs =>
    refine ⟨fun i n H' => n = xs.length - i ∧ i ≤ xs.length ∧ ∃ m' S', LcAt X.K σ ρ H1 m1 S1 L inv H' m' S' ∧ RunL X.K Q (W σ) H1 m1 S1 (lcFix tg gc ge S1.length (xs.drop i) ρ S'), ⟨xs.length, by simp, Nat.zero_le _, _, _, a2, h1⟩, ?_⟩
    rintro i n H' ⟨rfl, hi', m', S', a', h'⟩
    by_cases hlt : i < xs.length
    · refine .inr ?_
      have hx : xs[i]? = some xs[i] := List.getElem?_eq_getElem hlt
      obtain ⟨go, yl⟩ := fd.item xs i _ H' m' S' rfl a'.iv a'.ok hx
      refine ⟨go, fun H'' => ∃ m'' S'', LcAt X.K σ ρ H1 m1 S1 L inv H'' m'' S'' ∧ RunL X.K Q (W σ) H1 m1 S1 (lcFix tg gc ge S1.length (xs.drop (i + 1)) ρ S''), fun H'' hh => ⟨xs.length - (i + 1), by omega, rfl, hlt, hh⟩, fun v H2 hy => ?_⟩
      obtain ⟨ok3, f3, rv⟩ := yl v H2 hy
      rw [List.drop_eq_getElem_cons hlt, lcFix] at h'
      exact lc_turn fd.mono ok1.len (a'.step fd.mono ok3 f3) rv h'
    · have e : i = xs.length := by omega
      subst e
      rw [List.drop_length, lcFix] at h'
      exact .inl ⟨fd.stop xs H' m' S' rfl a'.iv a'.ok, lc_end ok1.len a' h'⟩
  | live k =>
    unfold lcSrc at h1
    simp only at h1
    split at h1
    · rename_i ys hys
      refine ⟨fun i n H' => ∃ m' S', LcAt X.K σ ρ H1 m1 S1 L inv H' m' S' ∧ RunL X.K Q (W σ) H1 m1 S1 (lcLive tg gc ge S1.length k n i ρ S'), ⟨ys.length, _, _, a2, h1⟩, ?_⟩
      rintro i n H' ⟨m', S', a', h'⟩
      unfold lcLive at h'
      split at h'
      · rename_i zs hzs
        split at h'
        · rename_i hz
          exact .inl ⟨fd.stopL k zs i H' m' S' rfl a'.iv a'.ok hzs hz, lc_end ok1.len a' h'⟩
        · exact h'.elim
        · rename_i _ d n hd
          obtain ⟨go, yl⟩ := fd.itemL k zs i _ H' m' S' rfl a'.iv a'.ok hzs hd
          refine .inr ⟨go, fun H'' => ∃ m'' S'', LcAt X.K σ ρ H1 m1 S1 L inv H'' m'' S'' ∧ RunL X.K Q (W σ) H1 m1 S1 (lcLive tg gc ge S1.length k n (i + 1) ρ S''), fun H'' hh => ⟨n, by omega, hh⟩, fun v H2 hy => ?_⟩
          obtain ⟨ok3, f3, rv⟩ := yl v H2 hy
          exact lc_turn fd.mono ok1.len (a'.step fd.mono ok3 f3) rv h'
      · exact h'.elim
    · exact h1.elim
end
end M

/-! statements -/
namespace M
open PySem PySem.Spec PyProof.Rows L2

def RunO (K : PySem.W.Frag) (W : WS) (E : Ends) (H : Hp) (m : List Addr) (S : St') : Out → Prop
  | .nx ρ S' => ∀ H' m' σ', StOk K H' m' S' → Fr H m S H' m' S' → RelE K H' m' S' σ' ρ → E.nx σ' H'
  | .rt v S' => ∀ H' m' u, StOk K H' m' S' → Fr H m S H' m' S' → RepS K H' m' S' u v → E.rt u H'
  | .bk ρ S' => ∀ H' m' σ', StOk K H' m' S' → Fr H m S H' m' S' → RelE K H' m' S' σ' ρ → E.bk σ' H'
  | .ct ρ S' => ∀ H' m' σ', StOk K H' m' S' → Fr H m S H' m' S' → RelE K H' m' S' σ' ρ → E.ct σ' H'
  | .exc c p ρ S' => ∀ H' m' σ', StOk K H' m' S' → Fr H m S H' m' S' → RelE K H' m' S' σ' ρ → W σ' c p H' m' S'
  | .bad => False
def tDS (K : PySem.W.Frag) (W : WS) (g : Ev → St' → Out) : TS := fun E σ H => ∃ m S ρ, StOk K H m S ∧ RelE K H m S σ ρ ∧ RunO K W E H m S (g ρ S)
theorem PS_imp {X : Cx} {e : Stmt} {t t' : TS} (h : PS X e t) (i : ∀ E σ H, t' E σ H → t E σ H) : PS X e t' := ⟨fun pins s σ H E I hw => h.run pins s σ H E I (i _ _ _ hw)⟩
theorem PSs_imp {X : Cx} {e : List Stmt} {t t' : TS} (h : PSs X e t) (i : ∀ E σ H, t' E σ H → t E σ H) : PSs X e t' := ⟨fun pins s σ H E I hw => h.run pins s σ H E I (i _ _ _ hw)⟩
section
variable {K : PySem.W.Frag} {W : WS} {E : Ends} {σ : L2.St} {ρ : Ev} {H H1 : Hp} {m m1 : List Addr} {S S1 : St'}
theorem RunO.mono {o : Out} (h : RunO K W E H m S o) (f : Fr H m S H1 m1 S1) : RunO K W E H1 m1 S1 o := by
  cases o with
  | nx ρ S' => exact fun H' m' σ' ok' f' r' => h H' m' σ' ok' (f.trans f') r'
  | rt v S' => exact fun H' m' σ' ok' f' r' => h H' m' σ' ok' (f.trans f') r'
  | bk ρ S' => exact fun H' m' σ' ok' f' r' => h H' m' σ' ok' (f.trans f') r'
  | ct ρ S' => exact fun H' m' σ' ok' f' r' => h H' m' σ' ok' (f.trans f') r'
  | exc c p ρ S' => exact fun H' m' σ' ok' f' r' => h H' m' σ' ok' (f.trans f') r'
  | bad => exact h
/-- an expression, then the rest -/
theorem RunO.of {α : Type} {P : Hp → List Addr → St' → α → Prop} {r : R α} {k : α → St' → Out} (re : RelE K H m S σ ρ) (h : RunO K W E H m S (Out.of ρ r k))
    (hk : ∀ a S1 H1 m1, StOk K H1 m1 S1 → Fr H m S H1 m1 S1 → RunO K W E H1 m1 S1 (k a S1) → P H1 m1 S1 a) : Run K P (W σ) H m S r := by
  cases r with
  | ok a S' => exact fun H1 m1 ok1 f1 => hk a S' H1 m1 ok1 f1 (RunO.mono h f1)
  | exc c p S' => exact fun H1 m1 ok1 f1 => h H1 m1 σ ok1 f1 (re.mono f1)
  | bad => exact h
theorem RunO.ofL {r : R (List D)} {k : List D → St' → Out} {Q : VK} (re : RelE K H m S σ ρ) (h : RunO K W E H m S (Out.of ρ r k))
    (hk : ∀ xs S' H' m' p, StOk K H' (m' ++ [p]) (S' ++ [.lst xs]) → Fr H m S H' (m' ++ [p]) (S' ++ [.lst xs]) → m <+: m' → RunO K W E H m S (k xs S') → Q (.ref p) H') : RunL K Q (W σ) H m S r := by
  cases r with
  | ok a S' => exact fun H' m' p ok' f' hp => hk a S' H' m' p ok' f' hp h
  | exc c p S' => exact fun H1 m1 ok1 f1 => h H1 m1 σ ok1 f1 (re.mono f1)
  | bad => exact h
end
section
variable {X : Cx} {W : WS} {a b c : Expr} {ga gb gc : Ev → St' → R SV} {pos p : Pos} {st : Stmt} {sts sts' : List Stmt} {gs gs' : Ev → St' → Out}
theorem pss_D0 : PSs X [] (tDS X.K W fun ρ S => .nx ρ S) := PSs_imp pss_nil fun E σ H ⟨m, S, ρ, ok, re, h⟩ => h H m σ ok .refl re
theorem pss_D (h1 : PS X st (tDS X.K W gs)) (h2 : PSs X sts (tDS X.K W gs')) : PSs X (st :: sts) (tDS X.K W fun ρ S => (gs ρ S).seq fun ρ' S' => gs' ρ' S') := by
  refine PSs_imp (pss_cons h1 h2) fun E σ H ⟨m, S, ρ, ok, re, h⟩ => ⟨m, S, ρ, ok, re, ?_⟩
  dsimp only at h
  revert h
  cases gs ρ S with
  | nx ρ1 S1 => exact fun h H' m' σ' ok' f' re' => ⟨m', S1, ρ1, ok', re', RunO.mono h f'⟩
  | rt v S1 => exact fun h => h
  | bk v S1 => exact fun h => h
  | ct v S1 => exact fun h => h
  | exc c p ρ S1 => exact fun h => h
  | bad => exact fun h => h
theorem ps_passD : PS X (.Pass pos) (tDS X.K W fun ρ S => .nx ρ S) := PS_imp ps_pass fun E σ H ⟨m, S, ρ, ok, re, h⟩ => h H m σ ok .refl re
theorem ps_docD {x : Str} {j : Nat} : PS X (.Expr (.Constant (.str x) j p) pos) (tDS X.K W fun ρ S => .nx ρ S) := PS_imp ps_doc fun E σ H ⟨m, S, ρ, ok, re, h⟩ => h H m σ ok .refl re
theorem ps_exprD (ha : PE X a (tD X.K W ga)) (hs : swapsWith a none pos.line X.env = pure false) : PS X (.Expr a pos) (tDS X.K W fun ρ S => Out.of ρ (ga ρ S) fun _ S1 => .nx ρ S1) :=
  PS_imp (ps_expr ha hs) fun E σ H ⟨m, S, ρ, ok, re, h⟩ => ⟨m, S, ρ, ok, re, RunO.of re h fun v S1 H1 m1 ok1 f1 h1 u ru => h1 H1 m1 σ ok1 .refl (re.mono f1)⟩
theorem ps_retD (ha : PE X a (tD X.K W ga)) : PS X (.Return (some a) pos) (tDS X.K W fun ρ S => Out.of ρ (ga ρ S) fun v S1 => .rt v S1) :=
  PS_imp (ps_ret ha) fun E σ H ⟨m, S, ρ, ok, re, h⟩ => ⟨m, S, ρ, ok, re, RunO.of re h fun v S1 H1 m1 ok1 f1 h1 u ru => h1 H1 m1 u ok1 .refl ru⟩
theorem ps_retND : PS X (.Return none pos) (tDS X.K W fun ρ S => .rt (.t .non) S) := PS_imp ps_retN fun E σ H ⟨m, S, ρ, ok, re, h⟩ => h H m _ ok .refl .non
theorem ps_ifD {t : Ev → St' → R Bool} (hc : PT X c (tDT X.K W t)) (h1 : PSs X sts (tDS X.K W gs)) (h2 : PSs X sts' (tDS X.K W gs')) : PS X (.If c sts sts' pos) (tDS X.K W fun ρ S => Out.of ρ (t ρ S) fun k S1 => if k then gs ρ S1 else gs' ρ S1) :=
  PS_imp (ps_if hc h1 h2) fun E σ H ⟨m, S, ρ, ok, re, h⟩ => ⟨m, S, ρ, ok, re, RunO.of re h fun k S1 H1 m1 ok1 f1 h1 => by
    cases k with
    | true => exact ⟨m1, S1, ρ, ok1, re.mono f1, h1⟩
    | false => exact ⟨m1, S1, ρ, ok1, re.mono f1, h1⟩⟩
/-- x = e -/
theorem ps_setD {i : Nat} {x : Str} {p' : Pos} (hN : X.N.Nodup) (hi : X.N[i]? = some x) (hx : Loc X.env.scope x) (hf : X.fn x = true ∨ X.env.scope.names.lookup x = some .local) (hs : swapsWith a (some (.Name x p')) pos.line X.env = pure false)
    (ha : PE X a (tD X.K W ga)) : PS X (.Assign [.Name x p'] a pos) (tDS X.K W fun ρ S => Out.of ρ (ga ρ S) fun v S1 => .nx (ρ.set i (some v)) S1) :=
  PS_imp (ps_set hN hi hx ha hs hf) fun E σ H ⟨m, S, ρ, ok, re, h⟩ => ⟨m, S, ρ, ok, re, RunO.of re h fun v S1 H1 m1 ok1 f1 h1 u ru => h1 H1 m1 _ ok1 .refl ((re.mono f1).set i ru)⟩
/-- x = a new list that is changed later -/
theorem ps_newD {i : Nat} {x : Str} {p' : Pos} {gl : Ev → St' → R (List D)} (hN : X.N.Nodup) (hi : X.N[i]? = some x) (hx : Loc X.env.scope x) (hf : X.fn x = true ∨ X.env.scope.names.lookup x = some .local) (hs : swapsWith a (some (.Name x p')) pos.line X.env = pure false)
    (ha : PE X a (tDL X.K W gl)) : PS X (.Assign [.Name x p'] a pos) (tDS X.K W fun ρ S => Out.of ρ (gl ρ S) fun xs S1 => .nx (ρ.set i (some (.o S1.length))) (S1 ++ [.lst xs])) :=
  PS_imp (ps_set hN hi hx ha hs hf) fun E σ H ⟨m, S, ρ, ok, re, h⟩ => ⟨m, S, ρ, ok, re, RunO.ofL re h fun xs S' H' m' q ok' f' hp hk => by
    have hl : m'.length = S'.length := by have := ok'.len; simpa using this
    exact hk H' _ _ ok' f' ((re.mono f').set i (show RepS X.K H' (m' ++ [q]) (S' ++ [.lst xs]) (.ref q) (.o S'.length) from ⟨q, by rw [← hl]; simp, rfl⟩))⟩
/-- (a, b) = e -/
theorem ps_tpD {is : List Nat} {es : List Expr} {k : Nat} {p' : Pos} (hc : X.calm = true) (hN : X.N.Nodup) (ht : TgsOk X is es) (hs : swapsWithSole [.Tuple es k p'] a pos.line X.env = pure false) (hw : swappedStores [.Tuple es k p'] a X.env = pure none)
    (ha : PE X a (tD X.K W ga)) : PS X (.Assign [.Tuple es k p'] a pos) (tDS X.K W fun ρ S => Out.of ρ (ga ρ S) fun v S1 => tpO ρ is v S1) := by
  have h1 : (assignEach [.Tuple es k p'] X.env).map (·.2) = [assign (.Tuple es k p') X.env] := by rw [assignEach, assignEach]; rfl; intro _ _ z; cases z
  refine PS_imp (ps_asg ha (pg_tp hc hN ht) hs hw h1) fun E σ H ⟨m, S, ρ, ok, re, h⟩ => ⟨m, S, ρ, ok, re, RunO.of re h fun v S1 H1 m1 ok1 f1 h1 u ru => ?_⟩
  unfold tpO at h1
  cases v with
  | o i => exact h1.elim
  | t d =>
    cases d with
    | tup ds =>
      simp only at h1
      split at h1
      · rename_i ρ' hb
        exact ⟨m1, S1, ρ, .tup ds, ρ', ok1, re.mono f1, ru, hb, fun σ' re' _ _ => h1 H1 m1 σ' ok1 .refl re'⟩
      · exact h1.elim
    | _ => exact h1.elim
/-- a, b = x, y -/
theorem ps_parD {i j : Nat} {x y : Str} {px py pt pt2 : Pos} {kt k2 : Nat} (hc : X.calm = true) (hN : X.N.Nodup) (hi : X.N[i]? = some x) (hj : X.N[j]? = some y) (hij : i ≠ j) (hx : X.env.scope.names.lookup x = some .local) (hy : X.env.scope.names.lookup y = some .local)
    (hst : noStar a = true) (hst2 : noStar b = true) (ha : PE X a (tD X.K W ga)) (hb : PE X b (tD X.K W gb)) (hw : swappedStores [.Tuple [.Name x px, .Name y py] kt pt] (.Tuple [a, b] k2 pt2) X.env = pure (some [x, y])) :
    PS X (.Assign [.Tuple [.Name x px, .Name y py] kt pt] (.Tuple [a, b] k2 pt2) pos) (tDS X.K W fun ρ S => Out.of ρ (ga ρ S) fun v S1 => Out.of ρ (gb ρ S1) fun u S2 => .nx ((ρ.set i (some v)).set j (some u)) S2) := by
  refine PS_imp (ps_par hc hN hi hj hij hx hy (pa_cons ha (pa_cons hb pa_nil (star_cons hst2)) (star_cons hst)) hw) fun E σ H ⟨m, S, ρ, ok, re, h⟩ => ?_
  refine ⟨m, S, ρ, ok, re, RunO.of re h fun v S1 H1 m1 ok1 f1 h1 u ru => ?_⟩
  refine ⟨m1, S1, ρ, ok1, re.mono f1, RunO.of (re.mono f1) h1 fun v2 S2 H2 m2 ok2 f2 h2 u2 ru2 => ?_⟩
  exact ⟨_, _, rfl, h2 H2 m2 _ ok2 .refl ((((re.mono f1).mono f2).set i (ru.mono f2)).set j ru2)⟩
/-- x op= e, ints -/
theorem ps_augD {i : Nat} {x : Str} {o : Bn} {p' : Pos} (ho : o ≠ .pow) (hN : X.N.Nodup) (hi : X.N[i]? = some x) (hx : Loc X.env.scope x) (hf : X.fn x = true ∨ X.env.scope.names.lookup x = some .local)
    (ha : PE X a (tD X.K W ga)) : PS X (.AugAssign (.Name x p') (opOf o) a pos) (tDS X.K W fun ρ S => match ρ[i]? with
    | some (some x) => Out.of ρ (ga ρ S) fun y S1 => augO ρ i o x y S1
    | _ => .bad) := by
  refine PS_imp (ps_aug hN hi hx ha (ip_bin o ho) hf) fun E σ H ⟨m, S, ρ, ok, re, h⟩ => ?_
  dsimp only at h
  split at h
  · rename_i xv hxv
    obtain ⟨v, e, r⟩ := re.2 i xv hxv
    refine ⟨v, e, m, S, ρ, ok, re, RunO.of re h fun y S1 H1 m1 ok1 f1 h1 u ru => ?_⟩
    unfold augO at h1
    split at h1
    · rename_i ia ib
      rw [if_neg ho] at h1
      split at h1
      · rename_i d hd
        cases RepS.int r
        cases RepS.int ru
        have hd' := hd
        obtain ⟨z, rfl⟩ : ∃ z, d = .int z := by
          unfold binD at hd
          cases o with
          | add => cases hd; exact ⟨_, rfl⟩
          | sub => cases hd; exact ⟨_, rfl⟩
          | mul => simp only at hd; split at hd <;> cases hd; exact ⟨_, rfl⟩
          | fdiv => simp only at hd; split at hd <;> cases hd; exact ⟨_, rfl⟩
          | mod => simp only at hd; split at hd <;> cases hd; exact ⟨_, rfl⟩
          | pow => simp only at hd; split at hd <;> cases hd; exact ⟨_, rfl⟩
        exact ⟨_, _, z, rfl, rfl, hd', h1 H1 m1 _ ok1 .refl ((re.mono f1).set i (d := .t (.int z)) (by exact Rep.int z))⟩
      · exact h1.elim
    · exact h1.elim
  · exact h.elim
/-- x.append(e), x a changeable list -/
theorem ps_appD {i : Nat} {x : Str} {p2 apos cpos : Pos} (hi : X.N[i]? = some x) (hv : Vis X.env.scope x) (hd : (x == ("__debug__" : Str)) = false) (hcd : (x == ("__classdict__" : Str)) = false) (hst : noStar a = true) (hline : (apos.endLine == cpos.line) = true)
    (ha : PE X a (tD X.K W ga)) : PS X (.Expr (.Call (.Attribute (.Name x p2) "append" apos) [a] [] cpos) pos) (tDS X.K W fun ρ S => match ρ[i]? with
    | some (some (.o k)) => match S[k]? with
      | some (.lst _) => Out.of ρ (ga ρ S) fun v S1 => appO ρ k v S1
      | _ => .bad
    | _ => .bad) := by
  have hall : [a].all noStar = true := by simp [hst]
  refine PS_imp (ps_expr (pe_bm PySem.F.plainAttrs_list PySem.F.slot_list_append PySem.F.type_list_append mt_append (pe_var hi hv hd hcd) (pa_cons ha pa_nil (star_cons hst)) (attr_plain rfl) (few hall (by simp)) hline (star_cons hst) (star_any rfl)) rfl) fun E σ H ⟨m, S, ρ, ok, re, h⟩ => ?_
  dsimp only at h
  split at h
  · rename_i k hk
    split at h
    · rename_i xs0 hS0
      obtain ⟨v, e, ad, hm, rfl⟩ := re.2 i _ hk
      obtain ⟨vs0, g0, _⟩ := ok.at_ k ad _ hm hS0
      refine ⟨_, e, .inl ⟨rfl, vs0, SqL.of g0⟩, m, S, ρ, ok, re, RunO.of re h fun y S1 H1 m1 ok1 f1 h1 u ru => ?_⟩
      unfold appO at h1
      split at h1
      · rename_i d S2 hg
        obtain ⟨ok2, f2, r2⟩ := ok1.grab ru hg
        split at h1
        · rename_i xs hS
          split at h1
          · rename_i hz
            have hm1 : m1[k]? = some ad := by
              obtain ⟨t, rfl⟩ := f1.2
              rw [List.getElem?_append_left (List.getElem?_eq_some_iff.mp hm).1]; exact hm
            obtain ⟨vs, g1, g2⟩ := ok2.at_ k ad _ hm1 hS
            obtain ⟨ok3, f3⟩ := ok2.write hm1 hS (fun z => nomatch z) (g2.append (.cons r2 .nil))
            exact ⟨ad, vs, u, rfl, rfl, g1, by rw [g2.length]; exact hz, h1 _ m1 σ ok3 (f2.trans f3) (((re.mono f1).mono f2).mono f3)⟩
          · exact h1.elim
        · exact h1.elim
      · exact h1.elim
    · exact h.elim
  · exact h.elim
/-- x[k] = e, x a changeable list -/
theorem ps_setiD {i : Nat} {x : Str} {p2 p3 : Pos} (hi : X.N[i]? = some x) (hv : Vis X.env.scope x) (hd : (x == ("__debug__" : Str)) = false) (hcd : (x == ("__classdict__" : Str)) = false) (hs : swapsWithSole [.Subscript (.Name x p2) b p3] a pos.line X.env = pure false) (hw : swappedStores [.Subscript (.Name x p2) b p3] a X.env = pure none)
    (hasg : ∀ v, assign (.Subscript (.Name x p2) b p3) X.env v = (do
      let ov ← holding [v] (eval (.Name x p2) X.env)
      let iv ← holding [v, ov] (eval b X.env)
      standAt p3
      holding [v, ov, iv] (setItem ov iv v)
      release [v, ov, iv] []))
    (ha : PE X a (tD X.K W ga)) (hb : PE X b (tD X.K W gb)) : PS X (.Assign [.Subscript (.Name x p2) b p3] a pos) (tDS X.K W fun ρ S => Out.of ρ (ga ρ S) fun v S1 => match grab S1 v with
    | some (d, S2) => match ρ[i]? with
      | some (some (.o n)) => Out.of ρ (gb ρ S2) fun kv S3 => setO ρ n d kv S3
      | _ => .bad
    | none => .bad) := by
  have h1 : (assignEach [.Subscript (.Name x p2) b p3] X.env).map (·.2) = [assign (.Subscript (.Name x p2) b p3) X.env] := by rw [assignEach, assignEach]; rfl; intro _ _ z; cases z
  refine PS_imp (ps_asg ha (pg_sub (pe_var hi hv hd hcd) hb set_list hasg) hs hw h1) fun E σ H ⟨m, S, ρ, ok, re, h⟩ => ⟨m, S, ρ, ok, re, RunO.of re h fun v S1 H1 m1 ok1 f1 h1 u ru => ?_⟩
  split at h1
  · rename_i d S2 hg
    obtain ⟨ok2, f2, r2⟩ := ok1.grab ru hg
    have re2 := (re.mono f1).mono f2
    split at h1
    · rename_i n hn
      obtain ⟨w, e, ad, hm, rfl⟩ := re2.2 i _ hn
      refine ⟨_, e, m1, S2, ρ, ok2, re2, RunO.of re2 (RunO.mono h1 f2) fun kv S3 H3 m3 ok3 f3 h3 w3 rw3 => ?_⟩
      unfold setO at h3
      split at h3
      · rename_i z
        cases RepS.int rw3
        split at h3
        · rename_i xs hS
          split at h3
          · rename_i j hj
            have hm3 : m3[n]? = some ad := by
              obtain ⟨t, rfl⟩ := f3.2
              rw [List.getElem?_append_left (List.getElem?_eq_some_iff.mp hm).1]; exact hm
            obtain ⟨vs, g1, g2⟩ := ok3.at_ n ad _ hm3 hS
            obtain ⟨ok4, f4⟩ := ok3.write hm3 hS (fun z => nomatch z) (g2.set j (r2.mono f3.1))
            exact ⟨ad, vs, z, j, rfl, rfl, g1, by rw [g2.length]; exact hj, h3 _ m3 σ ok4 f4 ((re2.mono f3).mono f4)⟩
          · exact h3.elim
        · exact h3.elim
      · exact h3.elim
    · exact h1.elim
  · exact h1.elim
/-- the for statement -/
theorem ps_forD {tge iter : Expr} {tg : Tg} {gi : Ev → St' → R Src} {gb : Ev → St' → Out} (hp : PassesOwn (model X.prog X.w) X.A X.env X.xe) (hc : X.calm = true) (hs : ∀ x, foldedSetIterable iter X.env x = pure x)
    (hi : PI X tge iter (tDI X.K W gi)) (hg : PG X tge (gD X.K tg)) (hb : PSs X sts (tDS X.K W gb)) : PS X (.For tge iter sts [] pos) (tDS X.K W fun ρ S => Out.of ρ (gi ρ S) fun src S1 => forSrc tg gb src ρ S1) := by
  refine PS_imp (ps_for hp hc hi hg hb hs) fun E σ H ⟨m, S, ρ, ok, re, h⟩ => ⟨m, S, ρ, ok, re, RunO.of re h fun src S1 H1 m1 ok1 f1 h1 J inv fd iv => ?_⟩
  have re1 := re.mono f1
  -- one turn
  have turn : ∀ {ρ2 : Ev} {S2 : St'} {H2 : Hp} {m2 : List Addr} {σ2 : L2.St} {d : D} {v : V} {kont : Ev → St' → Out} {N : L2.St → Hp → Prop}, StOk X.K H2 m2 S2 → RelE X.K H2 m2 S2 σ2 ρ2 → inv H2 m2 S2 → Rep X.K H2 (Own m2 S2) v d →
      RunO X.K W E H2 m2 S2 (match bindTg tg d ρ2 with | none => .bad | some ρ' => (gb ρ' S2).turn kont) →
      (∀ ρ3 S3 H3 m3 σ3, StOk X.K H3 m3 S3 → RelE X.K H3 m3 S3 σ3 ρ3 → inv H3 m3 S3 → RunO X.K W E H3 m3 S3 (kont ρ3 S3) → N σ3 H3) →
      gD X.K tg v σ2 H2 fun σ3 H3 => tDS X.K W gb { E with nx := N, ct := N, bk := E.nx } σ3 H3 := by
    intro ρ2 S2 H2 m2 σ2 d v kont N ok2 re2 iv2 rv h2 hN
    split at h2
    · exact h2.elim
    · rename_i ρ' hb'
      refine ⟨m2, S2, ρ2, d, ρ', ok2, re2, rv, hb', fun σ3 re3 _ _ => ⟨m2, S2, ρ', ok2, re3, ?_⟩⟩
      revert h2
      cases gb ρ' S2 with
      | nx ρ4 S4 => exact fun h2 H' m' σ' ok' f' re' => hN _ _ _ _ _ ok' re' (fd.mono _ _ _ _ _ _ iv2 f') (RunO.mono h2 f')
      | ct ρ4 S4 => exact fun h2 H' m' σ' ok' f' re' => hN _ _ _ _ _ ok' re' (fd.mono _ _ _ _ _ _ iv2 f') (RunO.mono h2 f')
      | bk ρ4 S4 => exact fun h2 H' m' σ' ok' f' re' => h2 H' m' σ' ok' f' re'
      | rt v4 S4 => exact fun h2 H' m' σ' ok' f' re' => h2 H' m' σ' ok' f' re'
      | exc c4 p4 ρ4 S4 => exact fun h2 H' m' σ' ok' f' re' => h2 H' m' σ' ok' f' re'
      | bad => exact fun h2 => h2
  cases src with
  | fix xs =>
    refine ⟨fun i n σ' H' => n = xs.length - i ∧ i ≤ xs.length ∧ ∃ m' S' ρ', StOk X.K H' m' S' ∧ RelE X.K H' m' S' σ' ρ' ∧ inv H' m' S' ∧ RunO X.K W E H' m' S' (forFix tg gb (xs.drop i) ρ' S'), ⟨xs.length, by simp, Nat.zero_le _, m1, S1, ρ, ok1, re1, iv, h1⟩, ?_⟩
    rintro i n σ' H' ⟨rfl, hi', m', S', ρ', ok', re', iv', h'⟩
    by_cases hlt : i < xs.length
    · refine .inr ?_
      have hx : xs[i]? = some xs[i] := List.getElem?_eq_getElem hlt
      obtain ⟨go, yl⟩ := fd.item xs i _ H' m' S' rfl iv' ok' hx
      refine ⟨go, fun σ'' H'' => ∃ m' S' ρ', StOk X.K H'' m' S' ∧ RelE X.K H'' m' S' σ'' ρ' ∧ inv H'' m' S' ∧ RunO X.K W E H'' m' S' (forFix tg gb (xs.drop (i + 1)) ρ' S'), fun σ'' H'' hh => ⟨xs.length - (i + 1), by omega, rfl, hlt, hh⟩, fun v H2 hy => ?_⟩
      obtain ⟨ok3, f3, rv⟩ := yl v H2 hy
      rw [List.drop_eq_getElem_cons hlt, forFix] at h'
      exact turn ok3 (re'.mono f3) (fd.mono _ _ _ _ _ _ iv' f3) rv (RunO.mono h' f3) fun ρ3 S3 H3 m3 σ3 a b c d => ⟨m3, S3, ρ3, a, b, c, d⟩
    · have e : i = xs.length := by omega
      subst e
      rw [List.drop_length, forFix] at h'
      exact .inl ⟨fd.stop xs H' m' S' rfl iv' ok', h' H' m' σ' ok' .refl re'⟩
  | live k =>
    unfold forSrc at h1
    simp only at h1
    split at h1
    · rename_i ys hys
      refine ⟨fun i n σ' H' => ∃ m' S' ρ', StOk X.K H' m' S' ∧ RelE X.K H' m' S' σ' ρ' ∧ inv H' m' S' ∧ RunO X.K W E H' m' S' (forLive tg gb k n i ρ' S'), ⟨ys.length, m1, S1, ρ, ok1, re1, iv, h1⟩, ?_⟩
      rintro i n σ' H' ⟨m', S', ρ', ok', re', iv', h'⟩
      unfold forLive at h'
      split at h'
      · rename_i zs hzs
        split at h'
        · rename_i hz
          exact .inl ⟨fd.stopL k zs i H' m' S' rfl iv' ok' hzs hz, h' H' m' σ' ok' .refl re'⟩
        · exact h'.elim
        · rename_i _ d n hd
          obtain ⟨go, yl⟩ := fd.itemL k zs i _ H' m' S' rfl iv' ok' hzs hd
          refine .inr ⟨go, fun σ'' H'' => ∃ m' S' ρ', StOk X.K H'' m' S' ∧ RelE X.K H'' m' S' σ'' ρ' ∧ inv H'' m' S' ∧ RunO X.K W E H'' m' S' (forLive tg gb k n (i + 1) ρ' S'), fun σ'' H'' hh => ⟨n, by omega, hh⟩, fun v H2 hy => ?_⟩
          obtain ⟨ok3, f3, rv⟩ := yl v H2 hy
          exact turn ok3 (re'.mono f3) (fd.mono _ _ _ _ _ _ iv' f3) rv (RunO.mono h' f3) fun ρ3 S3 H3 m3 σ3 a b c d => ⟨m3, S3, ρ3, a, b, c, d⟩
      · exact h'.elim
    · exact h1.elim
end
end M

/-! dicts with tuple keys that are changed: made, written, walked -/
namespace M
open PySem PySem.Spec PyProof.Rows L2
theorem upd_two {H : Hp} {a : Addr} {x y : HO} : upd (upd H a x) a y = upd H a y := by
  funext b
  by_cases h : b = a
  · subst h; rw [upd_same, upd_same]
  · rw [upd_ne h, upd_ne h, upd_ne h]
theorem upd_back {H : Hp} {a : Addr} {x y : HO} (h : H a = some y) : upd (upd H a x) a y = H := by
  rw [upd_two]
  funext b
  by_cases hb : b = a
  · subst hb; rw [upd_same, h]
  · rw [upd_ne hb]
theorem upd_swap {H : Hp} {a b : Addr} {x y : HO} (h : a ≠ b) : upd (upd H a x) b y = upd (upd H b y) a x := by
  funext c
  by_cases h1 : c = a
  · subst h1; rw [upd_ne h, upd_same, upd_same]
  · by_cases h2 : c = b
    · subst h2; rw [upd_same, upd_ne h1, upd_same]
    · rw [upd_ne h2, upd_ne h1, upd_ne h1, upd_ne h2]
theorem valV_at : ∀ {kv : List (List Key × V)} {n : Nat} {k : List Key} {v : V}, (kv.map (·.1)).Nodup → kv[n]? = some (k, v) → valV kv k = some v
  | [], n, k, v, _, e => by simp at e
  | p :: kv, 0, k, v, nd, e => by
    simp at e; subst e
    exact valV_pos rfl
  | p :: kv, n + 1, k, v, nd, e => by
    rw [List.map_cons, List.nodup_cons] at nd
    have e' : kv[n]? = some (k, v) := by simpa using e
    rw [valV_neg]
    · exact valV_at nd.2 e'
    · intro z
      exact nd.1 (z ▸ List.mem_map.mpr ⟨_, List.mem_of_getElem? e', rfl⟩)
def hasK (l : List (List Key)) (k : List Key) : Bool := l.any fun x => decide (x = k)
theorem hasK_iff (l : List (List Key)) (k : List Key) : hasK l k = true ↔ k ∈ l := by
  unfold hasK
  rw [List.any_eq_true]
  constructor
  · rintro ⟨y, hy, e⟩; exact of_decide_eq_true e ▸ hy
  · exact fun h => ⟨k, h, decide_eq_true rfl⟩
theorem keys_any {α : Type} (kv : List (List Key × α)) (k : List Key) : (kv.any fun p => decide (p.1 = k)) = hasK (kv.map (·.1)) k := by
  unfold hasK; rw [List.any_map]; rfl
theorem keys_map {α : Type} (kv : List (List Key × α)) (k : List Key) (v : α) : (kv.map fun p => if p.1 = k then (p.1, v) else p).map (·.1) = kv.map (·.1) := by
  rw [List.map_map]
  apply List.map_congr_left
  intro p _
  simp only [Function.comp]
  split <;> rfl
theorem putD_keys (kvs : List (List Key × D)) (k : List Key) (d : D) : (putD kvs k d).map (·.1) = if hasK (kvs.map (·.1)) k = true then kvs.map (·.1) else kvs.map (·.1) ++ [k] := by
  unfold putD
  rw [keys_any]
  by_cases h : hasK (kvs.map (·.1)) k = true
  · rw [if_pos h, if_pos h, keys_map]
  · rw [if_neg h, if_neg h, List.map_append]; rfl
theorem putK_keys (kv : List (List Key × V)) (k : List Key) (v : V) : (putK kv k v).map (·.1) = if hasK (kv.map (·.1)) k = true then kv.map (·.1) else kv.map (·.1) ++ [k] := by
  unfold putK
  rw [keys_any]
  by_cases h : hasK (kv.map (·.1)) k = true
  · rw [if_pos h, if_pos h, keys_map]
  · rw [if_neg h, if_neg h, List.map_append]; rfl
theorem putD_nodup {kvs : List (List Key × D)} {k : List Key} {d : D} (h : (kvs.map (·.1)).Nodup) : ((putD kvs k d).map (·.1)).Nodup := by
  rw [putD_keys]
  split
  · exact h
  · rename_i hk
    rw [List.nodup_append]
    exact ⟨h, by simp, fun a ha b hb => by rw [List.mem_singleton.mp hb]; exact fun e => hk ((hasK_iff _ _).mpr (e ▸ ha))⟩
section
variable {K : PySem.W.Frag} {H : Hp} {N : Addr → Prop}
theorem reps_put {k : List Key} {v : V} {d : D} (hv : Rep K H N v d) : ∀ {kv : List (List Key × V)} {kvs : List (List Key × D)}, kv.map (·.1) = kvs.map (·.1) → Reps K H N (kv.map (·.2)) (kvs.map (·.2)) →
    Reps K H N ((kv.map fun p => if p.1 = k then (p.1, v) else p).map (·.2)) ((kvs.map fun p => if p.1 = k then (p.1, d) else p).map (·.2))
  | [], [], _, h => h
  | [], _ :: _, e, _ => by simp at e
  | _ :: _, [], e, _ => by simp at e
  | p :: kv, q :: kvs, e, h => by
    simp only [List.map_cons, List.cons.injEq] at e
    cases h with
    | cons h1 h2 =>
      have ih := reps_put (k := k) hv e.2 h2
      simp only [List.map_cons]
      refine .cons ?_ ih
      rw [e.1]
      by_cases hk : q.1 = k
      · simp only [if_pos hk]; exact hv
      · simp only [if_neg hk]; exact h1
theorem reps_putK {kv : List (List Key × V)} {kvs : List (List Key × D)} {k : List Key} {v : V} {d : D} (e : kv.map (·.1) = kvs.map (·.1)) (h : Reps K H N (kv.map (·.2)) (kvs.map (·.2))) (hv : Rep K H N v d) : Reps K H N ((putK kv k v).map (·.2)) ((putD kvs k d).map (·.2)) := by
  unfold putK putD
  rw [keys_any, keys_any, e]
  split
  · exact reps_put hv e h
  · rw [List.map_append, List.map_append]
    exact h.append (.cons hv .nil)
end
theorem walk_kt {d : Addr} {o : Obj} {kv : List (List Key × V)} : Walk (Itkt d o kv) kv.length (fun H => H d = some (.frz o (.dT kv))) (fun i H x H' => H' = H ∧ ∃ (k : List Key) (v : V) (q : Addr), kv[i]? = some (k, v) ∧ x = .ref q ∧ H q = some (.tup (k.map kV))) :=
  ⟨fun i H hi g => ⟨g, hi⟩, fun H g => ⟨g, Nat.le_refl _⟩, fun i H x H' hi g y => y⟩
/-- [x[k] for k in x], x a dict with tuple keys -/
theorem pe_dvals {X : Cx} {x kx : Str} {i j : Nat} {scope : Scope} {own : List (Str × Nat)} {p1 p2 p3 p4 p5 pos : Pos} (hc : X.calm = true) (hN : X.N.Nodup) (hu : X.A.units + 1 < cLine) (hx : PE X (.Name x p5) (tVar i)) (ok : BlkOk X.N X.env.scope scope own) (hown : own.map (·.2) = [j]) (hij : i ≠ j)
    (hg : ∀ (s : Shared) (H : Hp) (C : Addr) (cl : List (Str × Addr)) (fp : List Addr), PG (X.blk s H scope (compEnvC scope cl C X.env) fp) (.Name kx p4) (gName j))
    (he1 : ∀ (s : Shared) (H : Hp) (C : Addr) (cl : List (Str × Addr)) (fp : List Addr), PE (X.blk s H scope (compEnvC scope cl C X.env) fp) (.Name x p1) (tVar i))
    (he2 : ∀ (s : Shared) (H : Hp) (C : Addr) (cl : List (Str × Addr)) (fp : List Addr), PE (X.blk s H scope (compEnvC scope cl C X.env) fp) (.Name kx p2) (tVar j)) (hs : ∀ y, foldedSetIterable (.Name x p5) X.env y = pure y) :
    PE X (.ListComp (.Subscript (.Name x p1) (.Name kx p2) p3) [⟨.Name kx p4, .Name x p5, [], 0⟩] scope pos) (fun σ H Q => ∃ d kv, σ[i]? = some (some (.ref d)) ∧ j < σ.length ∧ H d = some (.dT kv) ∧ (kv.map (·.1)).Nodup ∧ kv.length < sizeLine ∧ ∀ p, H p = none → Q (.ref p) (upd H p (.lst (kv.map (·.2))))) := by
  have key := pe_lock (pe_lc (elt := .Subscript (.Name x p1) (.Name kx p2) p3) (tg := .Name kx p4) (iter := .Name x p5) (ifs := []) (scope := scope) (own := own) (pos := pos) (tt := tYes) (te := tDGet (tVar i) (tVar j)) hc hN (pi_keys hx) ok hg (fun _ _ _ _ _ => pts_nil) (fun s H C cl fp => pe_dget (X := X.blk s H scope (compEnvC scope cl C X.env) fp) hu (he1 s H C cl fp) (he2 s H C cl fp) fun _ _ => rfl) hs)
  refine PE_imp key fun σ H Q ⟨d, kv, h1, hj, h2, nd, hz, q⟩ => ⟨d, .dT kv, h2, trivial, fun od => ?_⟩
  rw [hown]
  refine ⟨_, h1, d, od, rfl, .inr ⟨kv, upd_same, fun Dd hD => ?_⟩⟩
  have hDd : Dd ≠ d := fun e => by subst e; rw [upd_same] at hD; cases hD
  have hDn : H Dd = none := by rw [upd_ne hDd] at hD; exact hD
  refine lc_it walk_kt (fun n H' => H' = upd (upd H d (.frz od (.dT kv))) Dd (.lst ((kv.take n).map (·.2)))) (by simp) (fun n H' _ e => by rw [e, upd_ne hDd.symm, upd_same]) ?_ ?_
  · rintro n xx H1 H2 hn rfl ⟨rfl, k, v, b, e1, rfl, e2⟩
    have hw : (wipe σ [j]).length = σ.length := wipe_length _ _
    have hset : ((wipe σ [j]).set j (some (V.ref b)))[j]? = some (some (V.ref b)) := List.getElem?_set_self (by rw [hw]; exact hj)
    have hold : ((wipe σ [j]).set j (some (V.ref b)))[i]? = some (some (.ref d)) := by
      rw [List.getElem?_set_ne (Ne.symm hij), wipe_out (show ¬ i ∈ [j] from fun z => hij (List.mem_singleton.mp z))]; exact h1
    refine ⟨?_, ?_⟩
    · show ((wipe σ [j]).set j (some (V.ref b))).set j none = _
      rw [List.set_set]
      show ((wipe σ []).set j none).set j none = _
      rw [List.set_set]
      rfl
    · simp only [tYes, if_true]
      refine ⟨_, hold, _, hset, d, v, rfl, .inr ⟨kv, k, b, .inr ⟨od, ?_⟩, rfl, e2, (valV_at nd e1).symm⟩, (kv.take n).map (·.2), upd_same, ?_, ?_⟩
      · rw [upd_ne hDd.symm, upd_same]
      · rw [List.length_map, List.length_take]; omega
      · rw [upd_two, List.take_succ, e1, List.map_append]
        rfl
  · rintro H' rfl
    rw [List.take_length]
    refine ⟨by rw [upd_ne hDd.symm, upd_same], ?_⟩
    rw [upd_swap hDd, upd_back h2]
    exact q Dd hDn
theorem keys_vs {K : PySem.W.Frag} {H : Hp} {N : Addr → Prop} : ∀ {xs : List D} {ks : List Key} {vs : List V}, asKeys xs = some ks → Reps K H N vs xs → vs = ks.map kV
  | [], _, _, e, .nil => by cases e; rfl
  | .int i :: r, ks, _, e, .cons q t => by
    obtain ⟨ks', e1, rfl⟩ := Option.map_eq_some_iff.mp e
    cases q
    rw [keys_vs e1 t]; rfl
  | .str i :: r, ks, _, e, .cons q t => by
    obtain ⟨ks', e1, rfl⟩ := Option.map_eq_some_iff.mp e
    cases q
    rw [keys_vs e1 t]; rfl
  | .non :: _, _, _, e, _ => by cases e
  | .bl _ :: _, _, _, e, _ => by cases e
  | .tup _ :: _, _, _, e, _ => by cases e
  | .lst _ :: _, _, _, e, _ => by cases e
  | .dct _ :: _, _, _, e, _ => by cases e
  | .ins _ _ :: _, _, _, e, _ => by cases e
section
variable {X : Cx} {W : WS} {F : FS}
/-- .. over the data -/
theorem pd_dvals {e : Expr} {i j : Nat} (hij : j < X.N.length) (h : PE X e (fun σ H Q => ∃ d kv, σ[i]? = some (some (.ref d)) ∧ j < σ.length ∧ H d = some (.dT kv) ∧ (kv.map (·.1)).Nodup ∧ kv.length < sizeLine ∧ ∀ p, H p = none → Q (.ref p) (upd H p (.lst (kv.map (·.2)))))) (hl : ∀ σ H m S ρ, RelE X.K H m S σ ρ → σ.length = ρ.length) :
    PE X e (fun σ H Q => j < σ.length ∧ tD X.K W (evalE F (.dvals i j)) σ H Q) := by
  refine PE_imp h fun σ H Q ⟨hj, m, S, ρ, ok, re, h⟩ => ?_
  rw [evalE] at h
  split at h
  · rename_i n hn
    split at h
    · rename_i kvs hS
      split at h
      · rename_i hz
        obtain ⟨w, e1, ad, hm, rfl⟩ := re.2 i _ hn
        obtain ⟨kv, g1, g2, g3, g4⟩ := ok.at_ n ad _ hm hS
        have hlen : kv.length = kvs.length := by have := congrArg List.length g2; simpa using this
        refine ⟨ad, kv, e1, hj, g1, by rw [g2]; exact g3, by rw [hlen]; exact hz, fun p hp => ?_⟩
        exact h _ m (ok.laid hp _).1 (ok.laid hp _).2 _ (rep_lst_new ok hp g4)
      · exact h.elim
    · exact h.elim
  · exact h.elim
theorem pd_dvals' {e : Expr} {i j : Nat} (hij : j < X.N.length) (h : PE X e (fun σ H Q => ∃ d kv, σ[i]? = some (some (.ref d)) ∧ j < σ.length ∧ H d = some (.dT kv) ∧ (kv.map (·.1)).Nodup ∧ kv.length < sizeLine ∧ ∀ p, H p = none → Q (.ref p) (upd H p (.lst (kv.map (·.2)))))) : PE X e (tD X.K W (evalE F (.dvals i j))) :=
  ⟨fun pins s σ H Q I hh => (pd_dvals (F := F) hij h fun _ _ _ _ _ r => r.1).run pins s σ H Q I ⟨by rw [I.len]; exact hij, hh⟩⟩
/-- x = {} -/
theorem ps_newdD {i : Nat} {x : Str} {p p2 pos : Pos} (hN : X.N.Nodup) (hi : X.N[i]? = some x) (hx : Loc X.env.scope x) (hf : X.fn x = true ∨ X.env.scope.names.lookup x = some .local) :
    PS X (.Assign [.Name x p] (.Dict [] [] p2) pos) (tDS X.K W fun ρ S => .nx (ρ.set i (some (.o S.length))) (S ++ [.dt []])) := by
  refine PS_imp (ps_set hN hi hx pe_dnewT (by rfl) hf) fun E σ H ⟨m, S, ρ, ok, re, h⟩ => fun p hp => ?_
  obtain ⟨ok2, f2⟩ := ok.pushO hp (uo := .dT []) (oo := .dt []) fun f => ⟨[], upd_same, rfl, by simp, .nil⟩
  refine h _ (m ++ [p]) _ ok2 f2 ?_
  refine (re.mono f2).set i (d := .o S.length) ⟨p, ?_, rfl⟩
  rw [← ok.len]; simp
/-- x[tuple(k)] = e -/
theorem ps_putdD {i : Nat} {x : Str} {a b : Expr} {ga gb : Ev → St' → R SV} {p2 p3 p4 p5 pos : Pos} (hu : X.A.units + 1 < cLine) (hi : X.N[i]? = some x) (hv : Vis X.env.scope x) (hd : (x == ("__debug__" : Str)) = false) (hcd : (x == ("__classdict__" : Str)) = false) (hgt : Gl X "tuple") (hmt : X.mg "tuple" = none) (hst : noStar b = true)
    (ha : PE X a (tD X.K W ga)) (hb : PE X b (tD X.K W gb)) (hs : swapsWith a (some (.Subscript (.Name x p2) (.Call (.Name "tuple" p4) [b] [] p5) p3)) pos.line X.env = pure false) :
    PS X (.Assign [.Subscript (.Name x p2) (.Call (.Name "tuple" p4) [b] [] p5) p3] a pos) (tDS X.K W fun ρ S => Out.of ρ (ga ρ S) fun v S1 => match grab S1 v with
    | some (d, S2) => match ρ[i]? with
      | some (some (.o n)) => Out.of ρ (gb ρ S2) fun kv S3 => putO ρ n d kv S3
      | _ => .bad
    | none => .bad) := by
  have hk : PE X (.Call (.Name "tuple" p4) [b] [] p5) (tCB _ (tDA X.K W fun ρ S => (gb ρ S).bind fun v S1 => R.bind (.ok [] S1) fun vs S2 => .ok (v :: vs) S2)) :=
    pe_callTy call_tuple_of hgt hmt (by decide +kernel) (pa_D hb pa_D0 (star_cons hst)) (by decide) (by decide) (star_cons hst) rfl
  refine PS_imp (ps_dput hu (pe_var hi hv hd hcd) hk ha hs) fun E σ H ⟨m, S, ρ, ok, re, h⟩ => ⟨m, S, ρ, ok, re, RunO.of re h fun v S1 H1 m1 ok1 f1 h1 u ru => ?_⟩
  split at h1
  · rename_i d S2 hg
    obtain ⟨ok2, f2, r2⟩ := ok1.grab ru hg
    have re2 := (re.mono f1).mono f2
    split at h1
    · rename_i n hn
      obtain ⟨w, e, ad, hm, rfl⟩ := re2.2 i _ hn
      refine ⟨_, e, m1, S2, ρ, ok2, re2, ?_⟩
      have h2 := RunO.mono h1 f2
      revert h2
      dsimp only
      cases gb ρ S2 with
      | bad => exact fun h => h
      | exc c p S' => exact fun h2 H3 m3 ok3 f3 => h2 H3 m3 σ ok3 f3 (re2.mono f3)
      | ok kv S3 =>
        intro h2 H3 m3 ok3 f3 vs rvs
        have h3 := RunO.mono h2 f3
        cases rvs with
        | cons rk rn =>
          cases rn
          rw [Out.of_ok] at h3
          unfold putO at h3
          split at h3
          · rename_i xs hp
            split at h3
            · rename_i ks kvs hks hS
              split at h3
              · rename_i hz
                obtain ⟨l, ws, rfl, g1, g2⟩ := (ok3.peek rk hp).lst
                cases keys_vs hks g2
                refine ⟨l, ks.map kV, rfl, .inl ⟨.inl g1, fun q hq => ?_⟩⟩
                obtain ⟨ok4, f4⟩ := ok3.laid hq (.tup (ks.map kV))
                have hm3 : m3[n]? = some ad := by
                  obtain ⟨t, rfl⟩ := f3.2
                  rw [List.getElem?_append_left (List.getElem?_eq_some_iff.mp hm).1]; exact hm
                obtain ⟨kv', a1, a2, a3, a4⟩ := ok4.at_ n ad _ hm3 hS
                have hlen : kv'.length = kvs.length := by have := congrArg List.length a2; simpa using this
                obtain ⟨ok5, f5⟩ := ok4.writeO hm3 hS (fun z => nomatch z) (uo := .dT (putK kv' ks u)) (oo := .dt (putD kvs ks d)) fun f => ⟨putK kv' ks u, upd_same, by rw [putK_keys, putD_keys, a2], putD_nodup a3, (reps_putK a2 a4 ((r2.mono f3.1).mono f4.1)).mono f⟩
                exact ⟨ad, _, rfl, .inr ⟨kv', ks, q, a1, rfl, upd_same, by rw [hlen]; exact hz, rfl⟩, h3 _ m3 σ ok5 (f4.trans f5) (((re2.mono f3).mono f4).mono f5)⟩
              · exact h3.elim
            · exact h3.elim
          · exact h3.elim
    · exact h1.elim
  · exact h1.elim
end
end M

/-! the program's own text against the small language -/
namespace M
open PySem PySem.Spec PyProof.Rows L2

mutual
/-- the very same data -/
def same : D → D → Bool
  | .non, .non => true
  | .bl a, .bl b => a == b
  | .int i, .int j => decide (i = j)
  | .str x, .str y => decide (x = y)
  | .lst xs, .lst ys => sames xs ys
  | .tup xs, .tup ys => sames xs ys
  | _, _ => false
def sames : List D → List D → Bool
  | [], [] => true
  | x :: xs, y :: ys => same x y && sames xs ys
  | _, _ => false
end
mutual
theorem same_eq : ∀ a b : D, same a b = true → a = b
  | .non, b, h => by cases b <;> simp_all [same]
  | .bl x, b, h => by cases b <;> simp_all [same]
  | .int x, b, h => by cases b <;> simp_all [same]
  | .str x, b, h => by cases b <;> simp_all [same]
  | .tup xs, b, h => by
    cases b with
    | tup ys => rw [same] at h; rw [sames_eq xs ys h]
    | _ => simp_all [same]
  | .lst xs, b, h => by
    cases b with
    | lst ys => rw [same] at h; rw [sames_eq xs ys h]
    | _ => simp_all [same]
  | .dct _, b, h => by cases b <;> simp_all [same]
  | .ins _ _, b, h => by cases b <;> simp_all [same]
theorem sames_eq : ∀ a b : List D, sames a b = true → a = b
  | [], [], _ => rfl
  | [], _ :: _, h => by simp [sames] at h
  | _ :: _, [], h => by simp [sames] at h
  | x :: xs, y :: ys, h => by
    rw [sames, Bool.and_eq_true] at h
    rw [same_eq x y h.1, sames_eq xs ys h.2]
end

/-- a def of the text: its name, its parameters, all its names by slot -/
structure FI where
  name : Str
  ps : List Str
structure Glo where
  fns : List FI
  free : List Str
  consts : List (Str × D)

def biN : Bi → Str
  | .len => "len" | .int => "int" | .all => "all" | .any => "any" | .sum => "sum" | .list => "list" | .tuple => "tuple"
  | .sorted => "sorted" | .repr => "repr" | .str => "str" | .min => "min" | .max => "max"
def mtN : Mt → Str
  | .index => "index" | .split => "split" | .count => "count" | .join => "join"
def tyS : Ty → Str
  | .int => "int" | .bool => "bool" | .str => "str" | .tuple => "tuple" | .list => "list"
def opB : Bn → Operator → Bool
  | .add, .Add | .sub, .Sub | .mul, .Mult | .fdiv, .FloorDiv | .mod, .Mod | .pow, .Pow => true
  | _, _ => false
def cmB : Cm → CmpOp → Bool
  | .eq, .Eq | .ne, .NotEq | .lt, .Lt | .le, .LtE | .gt, .Gt | .ge, .GtE | .isin, .In | .notin, .NotIn | .is_, .Is | .isnot, .IsNot => true
  | _, _ => false
theorem opB_eq {o : Bn} {op : Operator} (h : opB o op = true) : op = opOf o := by cases o <;> cases op <;> first | rfl | cases h
theorem cmB_eq {o : Cm} {op : CmpOp} (h : cmB o op = true) : op = cmOf o := by cases o <;> cases op <;> first | rfl | cases h
def isK (k : NameKind) : Option NameKind → Bool
  | some k' => match k, k' with
    | .local, .local | .cell, .cell | .free, .free | .globalImplicit, .globalImplicit => true
    | _, _ => false
  | none => false
theorem isK_eq {k : NameKind} {o : Option NameKind} (h : isK k o = true) : o = some k := by
  unfold isK at h
  split at h
  · rename_i k'
    cases k <;> cases k' <;> first | rfl | cases h
  · cases h
/-- a name that may be read -/
def visB (N : List Str) (sc : Scope) (i : Nat) (x : Str) : Bool :=
  decide (N[i]? = some x) && (isK .local (sc.names.lookup x) || isK .cell (sc.names.lookup x) || isK .free (sc.names.lookup x)) && !(x == ("__debug__" : Str)) && !(x == ("__classdict__" : Str))
/-- a module's or a built-in's name -/
def gloB (sc : Scope) (x : Str) : Bool := isK .globalImplicit (sc.names.lookup x) && !(x == ("__debug__" : Str)) && !decide (x = ("__name__" : Str))
def freeB (G : Glo) (sc : Scope) (x : Str) : Bool := gloB sc x && decide (x ∈ G.free)
def constB : D → Const → Bool
  | .non, .none => true
  | .bl b, .bool c => b == c
  | .int i, .int j => decide (i = j)
  | .str x, .str y => decide (x = y)
  | _, _ => false
def notSlice : Expr → Bool
  | .Slice _ _ _ _ => false
  | _ => true
def plainBase : Expr → Bool
  | .Call (.Name _ _) [] [] _ => false
  | _ => true
/-- names that are stored, in a block whose own cells are told by cl -/
def tgB (N : List Str) (sc : Scope) (cl : Str → Bool) (i : Nat) (x : Str) : Bool := decide (N[i]? = some x) && (isK .local (sc.names.lookup x) || (isK .cell (sc.names.lookup x) && cl x))
def tgsB (N : List Str) (sc : Scope) (cl : Str → Bool) : List Nat → List Expr → Bool
  | [], [] => true
  | i :: is, .Name x _ :: es => tgB N sc cl i x && tgsB N sc cl is es
  | _, _ => false
def tgtB (N : List Str) (sc : Scope) (cl : Str → Bool) : Tg → Expr → Bool
  | .v i, .Name x _ => tgB N sc cl i x
  | .tp is, .Tuple es _ _ => tgsB N sc cl is es
  | _, _ => false
def isTup : Expr → Bool
  | .Tuple _ _ _ => true
  | _ => false
def notSet : Expr → Bool
  | .Set _ _ _ => false
  | _ => true
/-- the own names of a comprehension's block, by its targets -/
def ownOf (N : List Str) : List Nat → List (Str × Nat)
  | [] => []
  | i :: is => (N.getD i "", i) :: ownOf N is
def tysB (G : Glo) (sc : Scope) : List Ty → List Expr → Bool
  | [], [] => true
  | t :: ts, .Name x _ :: es => decide (x = tyS t) && freeB G sc x && tysB G sc ts es
  | _, _ => false

mutual
def chkE (G : Glo) (N : List Str) : Scope → ME → Expr → Bool
  | sc, .var i, .Name x _ => visB N sc i x
  | sc, .lit d, .Constant c _ _ => constB d c
  | sc, .glb x d, .Name y _ => decide (x = y) && gloB sc x && (G.consts.any fun p => decide (p.1 = x) && same p.2 d)
  | sc, .tup es, .Tuple es' _ _ => chkEs G N sc es es'
  | sc, .lst es, .List es' _ => chkEs G N sc es es'
  | sc, .bin o a b, .BinOp x op y _ => opB o op && chkE G N sc a x && chkE G N sc b y
  | sc, .neg a, .UnaryOp .USub x _ => chkE G N sc a x
  | sc, .cmp o a b, .Compare x [op] [y] _ => cmB o op && !behindInMarks op y && chkE G N sc a x && chkE G N sc b y
  | sc, .cmp2 o p a b c, .Compare x [op, oq] [y, z] _ => cmB o op && cmB p oq && !lastMarks [op, oq] [y, z] && chkE G N sc a x && chkE G N sc b y && chkE G N sc c z
  | sc, .and a b, .BoolOp .And (x :: y :: r) p => chkE G N sc a x && (match r with
      | [] => chkE G N sc b y
      | z :: r' => chkE G N sc b (.BoolOp .And (y :: z :: r') p))
  | sc, .or a b, .BoolOp .Or (x :: y :: r) p => chkE G N sc a x && (match r with
      | [] => chkE G N sc b y
      | z :: r' => chkE G N sc b (.BoolOp .Or (y :: z :: r') p))
  | sc, .not a, .UnaryOp .Not x _ => chkE G N sc a x
  | sc, .ife c a b, .IfExp c' a' b' _ => chkE G N sc c c' && chkE G N sc a a' && chkE G N sc b b'
  | sc, .idx a i, .Subscript x y _ => notSlice y && chkE G N sc a x && chkE G N sc i y
  | sc, .slc a lo hi, .Subscript x (.Slice l h none _) _ => chkE G N sc a x && chkP G N sc lo l && chkP G N sc hi h
  | sc, .call f es, .Call (.Name x _) (e :: es') [] _ => (match G.fns[f]? with
      | some fi => decide (fi.name = x)
      | none => false) && gloB sc x && (e :: es').all noStar && chkEs G N sc es (e :: es')
  | sc, .bi b es, .Call (.Name x _) (e :: es') [] _ => decide (x = biN b) && freeB G sc x && (e :: es').all noStar && chkEs G N sc es (e :: es')
  | sc, .isi a t, .Call (.Name x _) [y, .Name z _] [] _ => decide (x = "isinstance") && freeB G sc x && decide (z = tyS t) && freeB G sc z && noStar y && chkE G N sc a y
  | sc, .isit a ts, .Call (.Name x _) [y, .Tuple es _ _] [] _ => decide (x = "isinstance") && freeB G sc x && tysB G sc ts es && decide (ts.length ≤ 20) && noStar y && chkE G N sc a y
  | sc, .mth m o es, .Call (.Attribute x name ap) (e :: es') [] cp => decide (name = mtN m) && plainBase x && (ap.endLine == cp.line) && (e :: es').all noStar && decide (es'.length < 20) && chkE G N sc o x && chkEs G N sc es (e :: es')
  | sc, .lc tg it cs e, .ListComp elt [⟨tge, iter, ifs, 0⟩] scope _ => notSet iter && blkC N sc scope (ownOf N (tgs tg)) && tgtB N (relS scope sc) (fun x => scope.names.lookup x == some .cell) tg tge && chkI G N sc it tge iter && decide (ifs.length ≤ 1) && chkEs G N (relS scope sc) cs ifs && chkE G N (relS scope sc) e elt
  | sc, .dvals i j, .ListComp (.Subscript (.Name x _) (.Name k _) _) [⟨.Name k2 p, .Name x2 _, [], 0⟩] scope _ => visB N sc i x2 && blkC N sc scope (ownOf N [j]) && tgB N (relS scope sc) (fun x => scope.names.lookup x == some .cell) j k2 && visB N (relS scope sc) i x && visB N (relS scope sc) j k && decide (x = x2) && decide (k = k2) && !decide (i = j)
  | sc, .fz .sortset [e], .Call (.Name x _) [.Call (.Name y _) [a] [] _] [] _ => decide (x = "sorted") && freeB G sc x && decide (y = "set") && freeB G sc y && noStar a && chkE G N sc e a
  | sc, .fz .lenset [e], .Call (.Name x _) [.Call (.Name y _) [a] [] _] [] _ => decide (x = "len") && freeB G sc x && decide (y = "set") && freeB G sc y && noStar a && chkE G N sc e a
  | _, _, _ => false
def chkEs (G : Glo) (N : List Str) : Scope → List ME → List Expr → Bool
  | _, [], [] => true
  | sc, e :: es, x :: xs => noStar x && chkE G N sc e x && chkEs G N sc es xs
  | _, _, _ => false
def chkP (G : Glo) (N : List Str) : Scope → List ME → Option Expr → Bool
  | _, [], none => true
  | sc, [e], some x => chkE G N sc e x
  | _, _, _ => false
def chkI (G : Glo) (N : List Str) : Scope → IT → Expr → Expr → Bool
  | sc, .of e, _, x => chkE G N sc e x
  | sc, .range1 e, _, .Call (.Name x _) [y] [] _ => decide (x = "range") && freeB G sc x && noStar y && chkE G N sc e y
  | sc, .range2 a b, _, .Call (.Name x _) [y, z] [] _ => decide (x = "range") && freeB G sc x && noStar y && noStar z && chkE G N sc a y && chkE G N sc b z
  | sc, .enum e, tge, .Call (.Name x _) [y] [] _ => decide (x = "enumerate") && freeB G sc x && isTup tge && noStar y && chkE G N sc e y
  | sc, .zip a b, tge, .Call (.Name x _) [y, z] [] _ => decide (x = "zip") && freeB G sc x && isTup tge && noStar y && noStar z && chkE G N sc a y && chkE G N sc b z
  | _, _, _, _ => false
end
end M

/-! what is checked is sound: expressions -/
namespace M
open PySem PySem.Spec PyProof.Rows L2

structure Gd (G : Glo) (F : FS) (xr : XR) (k : Nat) (X : Cx) : Prop where
  nd : X.N.Nodup
  calm : X.calm = true
  room : Room k X.A
  fns : ∀ f fi, G.fns[f]? = some fi → ∃ (a : Addr) (fd : FuncData), X.mg fi.name = some (.ref a) ∧ PySem.W.keepIn X.K (.ref a) = true ∧ Binds X.K fd fi.ps [] ∧ FnOk X.prog X.w X.K X.mg X.base (L2.CX X.prog X.w) k a fd fi.ps (spOf X.K xr fi.ps.length (F f)) ∧ ∀ ds S, F f ds S ≠ .bad → ds.length = fi.ps.length
  free : ∀ x ∈ G.free, X.mg x = none
  consts : ∀ p ∈ G.consts, ∃ (u : Value) (v : V), X.mg p.1 = some u ∧ RelV v u ∧ ∀ H N, Rep X.K H N v p.2
theorem Gd.blk {G : Glo} {F : FS} {xr : XR} {k : Nat} {X : Cx} (g : Gd G F xr k X) (s : Shared) (H : Hp) (scope : Scope) (cenv : Env) (fp : List Addr) : Gd G F xr k (X.blk s H scope cenv fp) :=
  ⟨g.nd, g.calm, g.room, g.fns, g.free, g.consts⟩
theorem Gd.u70 {G : Glo} {F : FS} {xr : XR} {k : Nat} {X : Cx} (g : Gd G F xr k X) : X.A.units + 70 < cLine := by have := g.room.un; omega
theorem Gd.u65 {G : Glo} {F : FS} {xr : XR} {k : Nat} {X : Cx} (g : Gd G F xr k X) : X.A.units + 65 < cLine := by have := g.room.un; omega

structure Snd (X : Cx) (W : WS) (F : FS) (me : ME) (e : Expr) : Prop where
  pe : PE X e (tD X.K W (evalE F me))
  pt : PT X e (tDT X.K W fun ρ S => tru (evalE F me ρ S))
  pw : ∀ op l p, e = .BoolOp op l p → PW X e (tDT X.K W fun ρ S => tru (evalE F me ρ S))
/-- a form whose test is its value's truth -/
def plainT : Expr → Bool
  | .UnaryOp .Not _ _ | .BoolOp _ _ _ | .IfExp _ _ _ _ | .Compare _ _ _ _ => false
  | _ => true
theorem plainT_is {env : Env} {a : Expr} (h : plainT a = true) : ∀ whole, isTrue a env whole = (do let v ← whole; standAt a.pos; holding [v] (truthy v)) := by
  intro whole
  unfold PySem.isTrue
  split <;> first
    | (exfalso; cases h; done)
    | rfl
theorem Snd.plain {X : Cx} {W : WS} {F : FS} {me : ME} {e : Expr} (h : PE X e (tD X.K W (evalE F me))) (hp : plainT e = true) : Snd X W F me e :=
  ⟨h, pt_D h (plainT_is hp), fun op l p z => by subst z; cases hp⟩
theorem sub_plain {b : Expr} (h : notSlice b = true) : PlainIx b := by
  intro o i
  unfold subscripted
  split <;> first
    | (exfalso; cases h; done)
    | rfl
    | (rename_i z; exact absurd z (by simp))
theorem visB_ok {X : Cx} {i : Nat} {x : Str} (h : visB X.N X.env.scope i x = true) : X.N[i]? = some x ∧ Vis X.env.scope x ∧ (x == ("__debug__" : Str)) = false ∧ (x == ("__classdict__" : Str)) = false := by
  unfold visB at h
  simp only [Bool.and_eq_true, Bool.or_eq_true, decide_eq_true_eq, Bool.not_eq_true'] at h
  obtain ⟨⟨⟨h1, h2⟩, h3⟩, h4⟩ := h
  refine ⟨h1, ?_, h3, h4⟩
  rcases h2 with (h2 | h2) | h2
  · exact .inl (isK_eq h2)
  · exact .inr (.inl (isK_eq h2))
  · exact .inr (.inr (isK_eq h2))
theorem gloB_ok {X : Cx} {x : Str} (h : gloB X.env.scope x = true) : Gl X x ∧ (x == ("__debug__" : Str)) = false ∧ x ≠ ("__name__" : Str) := by
  unfold gloB at h
  simp only [Bool.and_eq_true, Bool.not_eq_true', decide_eq_false_iff_not] at h
  exact ⟨isK_eq h.1.1, h.1.2, h.2⟩
theorem freeB_ok {G : Glo} {F : FS} {xr : XR} {k : Nat} {X : Cx} (g : Gd G F xr k X) {x : Str} (h : freeB G X.env.scope x = true) : Gl X x ∧ (x == ("__debug__" : Str)) = false ∧ x ≠ ("__name__" : Str) ∧ X.mg x = none := by
  unfold freeB at h
  simp only [Bool.and_eq_true, decide_eq_true_eq] at h
  obtain ⟨h1, h2, h3⟩ := gloB_ok h.1
  exact ⟨h1, h2, h3, g.free x h.2⟩
theorem biN_boot (b : Bi) : bootBuiltins (biN b) = some (bval b) := by cases b <;> (simp only [biN, bval]; decide +kernel)
theorem tyS_boot (t : Ty) : bootBuiltins (tyS t) = some (.type (tyN t)) := by cases t <;> (simp only [tyS, tyN]; decide +kernel)
theorem const_pe {X : Cx} {W : WS} {F : FS} {d : D} {c : Const} {j : Nat} {pos : Pos} (h : constB d c = true) : PE X (.Constant c j pos) (tD X.K W (evalE F (.lit d))) := by
  have e : (evalE F (.lit d)) = fun _ S => .ok (.t d) S := by funext ρ S; rw [evalE]
  rw [e]
  unfold constB at h
  split at h
  · exact pd_const (F := F) pe_non fun _ _ => .non
  · have := eq_of_beq h; subst this; exact pd_const (F := F) pe_bl fun _ _ => .bl _
  · have := of_decide_eq_true h; subst this; exact pd_const (F := F) pe_int fun _ _ => .int _
  · have := of_decide_eq_true h; subst this; exact pd_const (F := F) pe_str fun _ _ => .str _
  · cases h
theorem tgB_ok {X : Cx} {cl : Str → Bool} (hcl : ∀ x, cl x = true → X.fn x = true) {i : Nat} {x : Str} (h : tgB X.N X.env.scope cl i x = true) : X.N[i]? = some x ∧ Loc X.env.scope x ∧ (X.fn x = true ∨ X.env.scope.names.lookup x = some .local) := by
  unfold tgB at h
  simp only [Bool.and_eq_true, Bool.or_eq_true, decide_eq_true_eq] at h
  obtain ⟨h1, h2 | h2⟩ := h
  · exact ⟨h1, .inl (isK_eq h2), .inr (isK_eq h2)⟩
  · exact ⟨h1, .inr (isK_eq h2.1), .inl (hcl x h2.2)⟩
theorem tgsB_ok {X : Cx} {cl : Str → Bool} (hcl : ∀ x, cl x = true → X.fn x = true) : ∀ {is : List Nat} {es : List Expr}, tgsB X.N X.env.scope cl is es = true → TgsOk X is es
  | [], [], _ => .nil
  | i :: is, .Name x p :: es, h => by
    rw [tgsB, Bool.and_eq_true] at h
    obtain ⟨a, b, c⟩ := tgB_ok hcl h.1
    exact .cons a b c (tgsB_ok hcl h.2)
  | [], _ :: _, h => by simp [tgsB] at h
  | i :: is, [], h => by simp [tgsB] at h
  | i :: is, e :: es, h => by
    cases e with
    | Name x p =>
      rw [tgsB, Bool.and_eq_true] at h
      obtain ⟨a, b, c⟩ := tgB_ok hcl h.1
      exact .cons a b c (tgsB_ok hcl h.2)
    | _ => simp [tgsB] at h
theorem tgtB_ok {X : Cx} {cl : Str → Bool} (hc : X.calm = true) (hN : X.N.Nodup) (hcl : ∀ x, cl x = true → X.fn x = true) {tg : Tg} {e : Expr} (h : tgtB X.N X.env.scope cl tg e = true) : PG X e (gD X.K tg) := by
  unfold tgtB at h
  split at h
  · obtain ⟨a, b, c⟩ := tgB_ok hcl h
    exact pg_v hN a b c
  · exact pg_tp hc hN (tgsB_ok hcl h)
  · cases h
theorem tysB_ok {G : Glo} {F : FS} {xr : XR} {k : Nat} {X : Cx} (g : Gd G F xr k X) : ∀ {ts : List Ty} {es : List Expr}, tysB G X.env.scope ts es = true → TysOk X ts es
  | [], [], _ => tys_nil
  | [], _ :: _, h => by simp [tysB] at h
  | t :: ts, [], h => by simp [tysB] at h
  | t :: ts, e :: es, h => by
    cases e with
    | Name x p =>
      simp only [tysB, Bool.and_eq_true, decide_eq_true_eq] at h
      obtain ⟨⟨rfl, h2⟩, h3⟩ := h
      obtain ⟨a, b, c, d⟩ := freeB_ok g h2
      exact tys_cons a d (tyS_boot t) c b (tysB_ok g h3)
    | _ => simp [tysB] at h
theorem ownOf_snd (N : List Str) : ∀ is : List Nat, (ownOf N is).map (·.2) = is
  | [] => rfl
  | i :: is => by rw [ownOf, List.map_cons, ownOf_snd N is]
theorem notSet_ok {e : Expr} {env : Env} (h : notSet e = true) : ∀ x, foldedSetIterable e env x = pure x := by
  intro x
  unfold foldedSetIterable
  split
  · cases h
  · rfl
theorem mt_facts (m : Mt) : PlainAttrs (mty m) ∧ Slot (mty m) (mtN m) (mid m) ∧ typeOf (.builtin (mid m)) = pure (.type "method_descriptor") := by
  cases m with
  | index => exact ⟨PySem.F.plainAttrs_list, PySem.F.slot_list_index, PySem.F.type_list_index⟩
  | split => exact ⟨PySem.F.plainAttrs_str, PySem.F.slot_str_split, PySem.F.type_str_split⟩
  | count => exact ⟨PySem.F.plainAttrs_str, PySem.F.slot_str_count, PySem.F.type_str_count⟩
  | join => exact ⟨PySem.F.plainAttrs_str, PySem.F.slot_str_join, PySem.F.type_str_join⟩
theorem plainBase_ok {o : Expr} {f : Str} {env : Env} (h : plainBase o = true) : attributeBase o f env (eval o env) = eval o env := by
  unfold attributeBase
  split
  · exact absurd h (by simp [plainBase])
  · rfl
/-- -e -/
theorem pd_neg {X : Cx} {W : WS} {a : Expr} {ga : Ev → St' → R SV} {pos : Pos} (ha : PE X a (tD X.K W ga)) : PE X (.UnaryOp .USub a pos) (tD X.K W fun ρ S => (ga ρ S).bind fun x S1 => match x with
    | .t (.int i) => .ok (.t (.int (-i))) S1
    | _ => .bad) := by
  refine PE_imp (pe_un un_neg ha) fun σ H Q ⟨m, S, ρ, ok, re, h⟩ => ?_
  refine tD_bind ok re h fun x v S1 H1 m1 ok1 re1 f1 rv h1 => ?_
  split at h1
  · cases RepS.int rv
    exact ⟨_, rfl, h1 H1 m1 ok1 .refl _ (by exact Rep.int _)⟩
  · exact h1.elim

/-! ### and, or as tests -/
section
variable {X : Cx} {W : WS} {a b : Expr} {ga gb : Ev → St' → R SV} {pos : Pos} {rest : List Expr}
def andR (ga gb : Ev → St' → R SV) : Ev → St' → R SV := fun ρ S => (ga ρ S).bind fun x S1 => (R.opt ((peek S1 x).bind truD) S1).bind fun k S2 => if k then gb ρ S2 else .ok x S2
def orR (ga gb : Ev → St' → R SV) : Ev → St' → R SV := fun ρ S => (ga ρ S).bind fun x S1 => (R.opt ((peek S1 x).bind truD) S1).bind fun k S2 => if k then .ok x S2 else gb ρ S2
theorem tru_and (ga gb : Ev → St' → R SV) (ρ : Ev) (S : St') : tru (andR ga gb ρ S) = (tru (ga ρ S)).bind fun k S1 => if k then tru (gb ρ S1) else .ok false S1 := by
  unfold tru andR
  simp only [R.bind_assoc]
  cases ga ρ S with
  | ok x S1 =>
    simp only [R.bind_ok]
    cases e : (peek S1 x).bind truD with
    | none => rfl
    | some k =>
      simp only [R.opt_some, R.bind_ok]
      cases k with
      | true => rfl
      | false => simp [e]
  | _ => rfl
theorem tru_or (ga gb : Ev → St' → R SV) (ρ : Ev) (S : St') : tru (orR ga gb ρ S) = (tru (ga ρ S)).bind fun k S1 => if k then .ok true S1 else tru (gb ρ S1) := by
  unfold tru orR
  simp only [R.bind_assoc]
  cases ga ρ S with
  | ok x S1 =>
    simp only [R.bind_ok]
    cases e : (peek S1 x).bind truD with
    | none => rfl
    | some k =>
      simp only [R.opt_some, R.bind_ok]
      cases k with
      | true => simp [e]
      | false => rfl
  | _ => rfl
theorem pw_andD {ta tb : Ev → St' → R Bool} (ha : PT X a (tDT X.K W ta)) (hb : PW X (.BoolOp .And (b :: rest) pos) (tDT X.K W tb)) : PW X (.BoolOp .And (a :: b :: rest) pos) (tDT X.K W fun ρ S => (ta ρ S).bind fun k S1 => if k then tb ρ S1 else .ok false S1) := by
  refine PW_imp (pw_and ha hb) fun σ H Q ⟨m, S, ρ, ok, re, h⟩ => ?_
  refine tDT_bind ok re h fun k S1 H1 m1 ok1 re1 f1 h1 => ?_
  cases k with
  | true => exact ⟨m1, S1, ρ, ok1, re1, h1⟩
  | false => exact h1 H1 m1 ok1 .refl
theorem pw_orD {ta tb : Ev → St' → R Bool} (ha : PT X a (tDT X.K W ta)) (hb : PW X (.BoolOp .Or (b :: rest) pos) (tDT X.K W tb)) : PW X (.BoolOp .Or (a :: b :: rest) pos) (tDT X.K W fun ρ S => (ta ρ S).bind fun k S1 => if k then .ok true S1 else tb ρ S1) := by
  refine PW_imp (pw_or ha hb) fun σ H Q ⟨m, S, ρ, ok, re, h⟩ => ?_
  refine tDT_bind ok re h fun k S1 H1 m1 ok1 re1 f1 h1 => ?_
  cases k with
  | true => exact h1 H1 m1 ok1 .refl
  | false => exact ⟨m1, S1, ρ, ok1, re1, h1⟩
theorem snd_and {F : FS} {ma mb : ME} (ha : Snd X W F ma a) (hb1 : PE X (.BoolOp .And (b :: rest) pos) (tD X.K W (evalE F mb))) (hb2 : PW X (.BoolOp .And (b :: rest) pos) (tDT X.K W fun ρ S => tru (evalE F mb ρ S))) : Snd X W F (.and ma mb) (.BoolOp .And (a :: b :: rest) pos) := by
  have e : evalE F (.and ma mb) = andR (evalE F ma) (evalE F mb) := by funext ρ S; rw [evalE]; try rfl
  have w : PW X (.BoolOp .And (a :: b :: rest) pos) (tDT X.K W fun ρ S => tru (evalE F (.and ma mb) ρ S)) := by
    have := pw_andD ha.pt hb2
    rw [e]
    simp only [tru_and]
    exact this
  exact ⟨by rw [e]; exact pd_and ha.pe hb1, w.pt, fun op l p z => w⟩
theorem snd_or {F : FS} {ma mb : ME} (ha : Snd X W F ma a) (hb1 : PE X (.BoolOp .Or (b :: rest) pos) (tD X.K W (evalE F mb))) (hb2 : PW X (.BoolOp .Or (b :: rest) pos) (tDT X.K W fun ρ S => tru (evalE F mb ρ S))) : Snd X W F (.or ma mb) (.BoolOp .Or (a :: b :: rest) pos) := by
  have e : evalE F (.or ma mb) = orR (evalE F ma) (evalE F mb) := by funext ρ S; rw [evalE]; try rfl
  have w : PW X (.BoolOp .Or (a :: b :: rest) pos) (tDT X.K W fun ρ S => tru (evalE F (.or ma mb) ρ S)) := by
    have := pw_orD ha.pt hb2
    rw [e]
    simp only [tru_or]
    exact this
  exact ⟨by rw [e]; exact pd_or ha.pe hb1, w.pt, fun op l p z => w⟩
theorem snd_not {F : FS} {ma : ME} (ha : Snd X W F ma a) : Snd X W F (.not ma) (.UnaryOp .Not a pos) := by
  have e : evalE F (.not ma) = fun ρ S => (tru (evalE F ma ρ S)).bind fun k S1 => .ok (.t (.bl (!k))) S1 := by funext ρ S; rw [evalE]
  refine ⟨by rw [e]; exact pd_not (t := fun _ S => .bad) ha.pe, ?_, fun op l p z => by cases z⟩
  have := pt_notD (pos := pos) ha.pt
  have e2 : (fun ρ S => tru (evalE F (.not ma) ρ S)) = fun ρ S => (tru (evalE F ma ρ S)).bind fun k S1 => R.ok (!k) S1 := by
    funext ρ S
    rw [e]
    simp only [tru, R.bind_assoc]
    rfl
  rw [e2]
  exact this
theorem snd_ife {F : FS} {c : Expr} {mc ma mb : ME} (hc : Snd X W F mc c) (ha : Snd X W F ma a) (hb : Snd X W F mb b) : Snd X W F (.ife mc ma mb) (.IfExp c a b pos) := by
  have e : evalE F (.ife mc ma mb) = fun ρ S => (tru (evalE F mc ρ S)).bind fun k S1 => if k then evalE F ma ρ S1 else evalE F mb ρ S1 := by funext ρ S; rw [evalE]
  refine ⟨by rw [e]; exact pd_ife hc.pt ha.pe hb.pe, ?_, fun op l p z => by cases z⟩
  have e2 : (fun ρ S => tru (evalE F (.ife mc ma mb) ρ S)) = fun ρ S => (tru (evalE F mc ρ S)).bind fun k S1 => if k then tru (evalE F ma ρ S1) else tru (evalE F mb ρ S1) := by
    funext ρ S
    rw [e]
    simp only [tru, R.bind_assoc]
    congr 1; funext x S1; congr 1; funext k S2
    cases k <;> rfl
  rw [e2]
  refine ⟨fun pins s σ H Q I h => ?_⟩
  obtain ⟨m, S, ρ, ok, re, h⟩ := h
  show wpAny _ _ (do if ← PySem.isTrue c X.env (eval c X.env) then PySem.isTrue a X.env (eval a X.env) else PySem.isTrue b X.env (eval b X.env)) _ _ _
  refine wpAny_bind (thn (hc.pt.run pins s σ H _ I (tDT_bind ok re h fun k S1 H1 m1 ok1 re1 f1 h1 => (show (fun k H1 => ∃ m1 S1, StOk X.K H1 m1 S1 ∧ RelE X.K H1 m1 S1 σ ρ ∧ Run X.K (fun H' m' S' b => Q b H') (W σ) H1 m1 S1 (if k = true then tru (evalE F ma ρ S1) else tru (evalE F mb ρ S1))) k H1 from ⟨m1, S1, ok1, re1, h1⟩))) fun k s1 ⟨H1, I1, m1, S1, ok1, re1, h1⟩ => ?_)
  cases k with
  | true => exact ha.pt.run pins s1 σ H1 Q I1 ⟨m1, S1, ρ, ok1, re1, h1⟩
  | false => exact hb.pt.run pins s1 σ H1 Q I1 ⟨m1, S1, ρ, ok1, re1, h1⟩
def cmpR (o : Cm) (ga gb : Ev → St' → R SV) : Ev → St' → R SV := fun ρ S => (ga ρ S).bind fun x S1 => (gb ρ S1).bind fun y S2 =>
      R.opt ((peek S2 x).bind fun d => (peek S2 y).bind fun e => (cmpD o d e).map fun b => .t (.bl b)) S2
theorem snd_cmp {F : FS} {ma mb : ME} (o : Cm) (hu : X.A.units + 65 < cLine) (hm : behindInMarks (cmOf o) b = false) (ha : Snd X W F ma a) (hb : Snd X W F mb b) : Snd X W F (.cmp o ma mb) (.Compare a [cmOf o] [b] pos) := by
  have e : evalE F (.cmp o ma mb) = cmpR o (evalE F ma) (evalE F mb) := by funext ρ S; rw [evalE]; try rfl
  exact ⟨by rw [e]; exact pd_cmp o hu hm ha.pe hb.pe, by rw [e]; exact pt_cmpD o hu hm ha.pe hb.pe, fun op l p z => by cases z⟩
theorem snd_cmp2 {F : FS} {c : Expr} {ma mb mc : ME} (o p : Cm) (hu : X.A.units + 65 < cLine) (hm : lastMarks [cmOf o, cmOf p] [b, c] = false) (ha : Snd X W F ma a) (hb : Snd X W F mb b) (hc : Snd X W F mc c) : Snd X W F (.cmp2 o p ma mb mc) (.Compare a [cmOf o, cmOf p] [b, c] pos) := by
  have e : evalE F (.cmp2 o p ma mb mc) = cmp2R o p (evalE F ma) (evalE F mb) (evalE F mc) := by funext ρ S; rw [evalE]; try rfl
  refine ⟨by rw [e]; exact pd_cmp2 o p hu ha.pe hb.pe hc.pe hm, by rw [e]; exact pt_cmp2 o p hu ha.pe hb.pe hc.pe hm, fun op l p z => by cases z⟩
end
end M

/-! what is checked is sound: all expressions -/
namespace M
open PySem PySem.Spec PyProof.Rows L2
section
variable {G : Glo} {F : FS} {xr : XR} {k : Nat}
theorem ptsD {X : Cx} {W : WS} {cs : List ME} {ifs : List Expr} (hl : ifs.length ≤ 1) (h : ∀ c x, cs = [c] → ifs = [x] → PT X x (tDT X.K W fun ρ S => tru (evalE F c ρ S))) (hlen : cs.length = ifs.length) : PTs X ifs (tDT X.K W (tests (evalCs F cs))) := by
  cases ifs with
  | nil =>
    cases cs with
    | nil => exact ⟨fun pins s σ H Q I hw => pts_nil.run pins s σ H Q I (by obtain ⟨m, S, ρ, ok, re, h⟩ := hw; unfold evalCs tests at h; exact h H m ok .refl)⟩
    | cons c cs => simp at hlen
  | cons x ifs =>
    cases ifs with
    | cons y r => simp at hl
    | nil =>
      cases cs with
      | nil => simp at hlen
      | cons c cs =>
        cases cs with
        | cons d r => simp at hlen
        | nil =>
          have := h c x rfl rfl
          unfold evalCs tests
          exact pts_one this
theorem chkEs_len {N : List Str} {sc : Scope} : ∀ {es : List ME} {xs : List Expr}, chkEs G N sc es xs = true → es.length = xs.length
  | [], [], _ => rfl
  | [], _ :: _, h => by simp [chkEs] at h
  | _ :: _, [], h => by simp [chkEs] at h
  | e :: es, x :: xs, h => by
    simp only [chkEs, Bool.and_eq_true] at h
    simp [chkEs_len h.2]

theorem Snd.cast {X : Cx} {W : WS} {me : ME} {e : Expr} {g : Ev → St' → R SV} (h : PE X e (tD X.K W g)) (he : evalE F me = g) (hp : plainT e = true) : Snd X W F me e := .plain (by rw [he]; exact h) hp
theorem chkP_none {N : List Str} {sc : Scope} {e : ME} {es : List ME} : chkP G N sc (e :: es) none = false := by cases es <;> rfl
theorem chkP_two {N : List Str} {sc : Scope} {e e2 : ME} {es : List ME} {x : Option Expr} : chkP G N sc (e :: e2 :: es) x = false := by cases x <;> rfl
theorem chkP_one {N : List Str} {sc : Scope} {e : ME} {x : Expr} : chkP G N sc [e] (some x) = chkE G N sc e x := rfl
theorem chkP_some {N : List Str} {sc : Scope} {x : Expr} : chkP G N sc [] (some x) = false := rfl
theorem chk_lc {N : List Str} {sc : Scope} {tg : Tg} {it : IT} {cs : List ME} {e' : ME} {e : Expr} (h : chkE G N sc (.lc tg it cs e') e = true) : ∃ elt tge iter ifs scope pos, e = .ListComp elt [⟨tge, iter, ifs, 0⟩] scope pos ∧ notSet iter = true ∧ blkC N sc scope (ownOf N (tgs tg)) = true ∧ tgtB N (relS scope sc) (fun x => scope.names.lookup x == some .cell) tg tge = true ∧ chkI G N sc it tge iter = true ∧ ifs.length ≤ 1 ∧ chkEs G N (relS scope sc) cs ifs = true ∧ chkE G N (relS scope sc) e' elt = true := by
  unfold chkE at h
  split at h
  all_goals first | (exact absurd h Bool.false_ne_true) | (rename_i hq; cases hq)
  simp only [Bool.and_eq_true, decide_eq_true_eq] at h
  obtain ⟨⟨⟨⟨⟨⟨h1, h2⟩, h3⟩, h4⟩, h5⟩, h6⟩, h7⟩ := h
  exact ⟨_, _, _, _, _, _, rfl, h1, h2, h3, h4, h5, h6, h7⟩
theorem ls_pos (cs : List ME) : 0 < sizeOf cs := by cases cs <;> simp <;> omega
theorem it_pos (it : IT) : 0 < sizeOf it := by cases it <;> simp <;> omega
/-- a comprehension, in its parts -/
def LcOk (X : Cx) (W : WS) (F : FS) (tg : Tg) (it : IT) (cs : List ME) (e' : ME) (e : Expr) : Prop :=
  ∃ (elt tge iter : Expr) (ifs : List Expr) (scope : Scope) (pos : Pos) (own : List (Str × Nat)), e = .ListComp elt [⟨tge, iter, ifs, 0⟩] scope pos ∧ PI X tge iter (tDI X.K W (evalI F it)) ∧ BlkOk X.N X.env.scope scope own ∧ own.map (·.2) = tgs tg ∧ (∀ x, foldedSetIterable iter X.env x = pure x) ∧
    (∀ (s : Shared) (H : Hp) (C : Addr) (cl : List (Str × Addr)) (fp : List Addr), PG (X.blk s H scope (compEnvC scope cl C X.env) fp) tge (gD X.K tg)) ∧
    (∀ (s : Shared) (H : Hp) (C : Addr) (cl : List (Str × Addr)) (fp : List Addr), PTs (X.blk s H scope (compEnvC scope cl C X.env) fp) ifs (tDT X.K (wOf xr fun _ _ _ _ => False) (tests (evalCs F cs)))) ∧
    ∀ (s : Shared) (H : Hp) (C : Addr) (cl : List (Str × Addr)) (fp : List Addr), PE (X.blk s H scope (compEnvC scope cl C X.env) fp) elt (tD X.K (wOf xr fun _ _ _ _ => False) (evalE F e'))
theorem LcOk.pe {X : Cx} {W : WS} {tg : Tg} {it : IT} {cs : List ME} {e' : ME} {e : Expr} (hc : X.calm = true) (hN : X.N.Nodup) (h : LcOk (xr := xr) X W F tg it cs e' e) : PE X e (tDL X.K W (evalL F (.lc tg it cs e'))) := by
  obtain ⟨elt, tge, iter, ifs, scope, pos, own, rfl, hi, ok, ho, hs, hg, ht, he⟩ := h
  have e1 : evalL F (.lc tg it cs e') = fun ρ S => (evalI F it ρ S).bind fun src S1 => lcSrc tg (tests (evalCs F cs)) (evalE F e') src ρ S1 := by funext ρ S; rw [evalL]
  rw [e1]
  exact PE_imp (pe_lc hc hN hi ok hg ht he hs) (pd_lcL hc hN hi ok ho hg ht he hs)
theorem fz_lenset (e1 : ME) : evalE F (.fz .lenset [e1]) = fun ρ S => (evalE F e1 ρ S).bind fun x S1 => R.opt (((peek S1 x).bind lensetD).map .t) S1 := by
  funext ρ S
  rw [evalE, evalEs, R.bind_assoc]
  congr 1
  funext v S1
  rw [evalEs, R.bind_ok, R.bind_ok]
  simp only [peeks]
  cases peek S1 v with
  | none => rfl
  | some d => simp only [Option.map_some, Option.bind_some, fzD]
theorem fz_sortset (e1 : ME) : evalE F (.fz .sortset [e1]) = fun ρ S => (evalE F e1 ρ S).bind fun x S1 => R.opt (((peek S1 x).bind sortsetD).map .t) S1 := by
  funext ρ S
  rw [evalE, evalEs, R.bind_assoc]
  congr 1
  funext v S1
  rw [evalEs, R.bind_ok, R.bind_ok]
  simp only [peeks]
  cases peek S1 v with
  | none => rfl
  | some d => simp only [Option.map_some, Option.bind_some, fzD]
mutual
theorem sndE : ∀ (me : ME) (X : Cx) (Wx : WX) (e : Expr), Gd G F xr k X → Takes X Wx → chkE G X.N X.env.scope me e = true → Snd X (wOf xr Wx) F me e
  | .var i, X, Wx, e, g, tk, h => by
    unfold chkE at h
    split at h
    all_goals first | (exact absurd h Bool.false_ne_true) | (rename_i hq; cases hq)
    obtain ⟨a, b, c, d⟩ := visB_ok h
    exact .plain (pd_var a b c d) rfl
  | .lit d, X, Wx, e, g, tk, h => by
    unfold chkE at h
    split at h
    all_goals first | (exact absurd h Bool.false_ne_true) | (rename_i hq; cases hq)
    exact .plain (const_pe h) rfl
  | .glb x d, X, Wx, e, g, tk, h => by
    unfold chkE at h
    split at h
    all_goals first | (exact absurd h Bool.false_ne_true) | (rename_i hq; cases hq)
    simp only [Bool.and_eq_true, decide_eq_true_eq, List.any_eq_true] at h
    obtain ⟨⟨rfl, h2⟩, p, hp, rfl, h4⟩ := h
    obtain ⟨u, v, h5, h6, h7⟩ := g.consts p hp
    obtain ⟨g1, g2, g3⟩ := gloB_ok h2
    rw [same_eq _ _ h4] at h7
    exact .cast (pd_const (F := F) (pe_glob g1 h5 h6 g2) h7) (by funext ρ S; rw [evalE]) rfl
  | .tup es, X, Wx, e, g, tk, h => by
    unfold chkE at h
    split at h
    all_goals first | (exact absurd h Bool.false_ne_true) | (rename_i hq; cases hq)
    exact .cast (pd_tup (sndEs es X Wx _ g tk h)) (by funext ρ S; rw [evalE]; try rfl) rfl
  | .lst es, X, Wx, e, g, tk, h => by
    unfold chkE at h
    split at h
    all_goals first | (exact absurd h Bool.false_ne_true) | (rename_i hq; cases hq)
    refine .cast (pd_of_L (pd_lstL (sndEs es X Wx _ g tk h))) ?_ rfl
    funext ρ S
    rw [evalE]
    simp only [R.bind_assoc]
    congr 1; funext vs S1
    cases grabs S1 vs with
    | none => rfl
    | some p => obtain ⟨ds, S2⟩ := p; simp only; split <;> rfl
  | .bin o a b, X, Wx, e, g, tk, h => by
    unfold chkE at h
    split at h
    all_goals first | (exact absurd h Bool.false_ne_true) | (rename_i hq; cases hq)
    simp only [Bool.and_eq_true] at h
    obtain ⟨⟨h1, h2⟩, h3⟩ := h
    rw [opB_eq h1]
    exact .cast (pd_bin o (sndE a X Wx _ g tk h2).pe (sndE b X Wx _ g tk h3).pe) (by funext ρ S; rw [evalE]) rfl
  | .neg a, X, Wx, e, g, tk, h => by
    unfold chkE at h
    split at h
    all_goals first | (exact absurd h Bool.false_ne_true) | (rename_i hq; cases hq)
    exact .cast (pd_neg (sndE a X Wx _ g tk h).pe) (by funext ρ S; rw [evalE]; try rfl) rfl
  | .cmp o a b, X, Wx, e, g, tk, h => by
    unfold chkE at h
    split at h
    all_goals first | (exact absurd h Bool.false_ne_true) | (rename_i hq; cases hq)
    simp only [Bool.and_eq_true, Bool.not_eq_true'] at h
    obtain ⟨⟨⟨h1, h0⟩, h2⟩, h3⟩ := h
    have e1 := cmB_eq h1
    subst e1
    exact snd_cmp o g.u65 h0 (sndE a X Wx _ g tk h2) (sndE b X Wx _ g tk h3)
  | .cmp2 o p a b c, X, Wx, e, g, tk, h => by
    unfold chkE at h
    split at h
    all_goals first | (exact absurd h Bool.false_ne_true) | (rename_i hq; cases hq)
    simp only [Bool.and_eq_true, Bool.not_eq_true'] at h
    obtain ⟨⟨⟨⟨⟨h1, h1'⟩, h0⟩, h2⟩, h3⟩, h4⟩ := h
    have e1 := cmB_eq h1
    have e2 := cmB_eq h1'
    subst e1 e2
    exact snd_cmp2 o p g.u65 h0 (sndE a X Wx _ g tk h2) (sndE b X Wx _ g tk h3) (sndE c X Wx _ g tk h4)
  | .and a b, X, Wx, e, g, tk, h => by
    unfold chkE at h
    split at h
    all_goals first | (exact absurd h Bool.false_ne_true) | (rename_i hq; cases hq)
    rename_i x y r p
    rw [Bool.and_eq_true] at h
    cases r with
    | nil =>
      have hb := sndE b X Wx y g tk h.2
      exact snd_and (sndE a X Wx x g tk h.1) (pe_one hb.pe) (pw_and1 hb.pt)
    | cons z r' =>
      have hb := sndE b X Wx _ g tk h.2
      exact snd_and (sndE a X Wx x g tk h.1) hb.pe (hb.pw _ _ _ rfl)
  | .or a b, X, Wx, e, g, tk, h => by
    unfold chkE at h
    split at h
    all_goals first | (exact absurd h Bool.false_ne_true) | (rename_i hq; cases hq)
    rename_i x y r p
    rw [Bool.and_eq_true] at h
    cases r with
    | nil =>
      have hb := sndE b X Wx y g tk h.2
      exact snd_or (sndE a X Wx x g tk h.1) (pe_one hb.pe) (pw_or1 hb.pt)
    | cons z r' =>
      have hb := sndE b X Wx _ g tk h.2
      exact snd_or (sndE a X Wx x g tk h.1) hb.pe (hb.pw _ _ _ rfl)
  | .not a, X, Wx, e, g, tk, h => by
    unfold chkE at h
    split at h
    all_goals first | (exact absurd h Bool.false_ne_true) | (rename_i hq; cases hq)
    exact snd_not (sndE a X Wx _ g tk h)
  | .ife c a b, X, Wx, e, g, tk, h => by
    unfold chkE at h
    split at h
    all_goals first | (exact absurd h Bool.false_ne_true) | (rename_i hq; cases hq)
    simp only [Bool.and_eq_true] at h
    exact snd_ife (sndE c X Wx _ g tk h.1.1) (sndE a X Wx _ g tk h.1.2) (sndE b X Wx _ g tk h.2)
  | .idx a i, X, Wx, e, g, tk, h => by
    unfold chkE at h
    split at h
    all_goals first | (exact absurd h Bool.false_ne_true) | (rename_i hq; cases hq)
    simp only [Bool.and_eq_true] at h
    exact .cast (pd_idx (sub_plain h.1.1) (sndE a X Wx _ g tk h.1.2).pe (sndE i X Wx _ g tk h.2).pe) (by funext ρ S; rw [evalE]) rfl
  | .slc a lo hi, X, Wx, e, g, tk, h => by
    unfold chkE at h
    split at h
    all_goals first | (exact absurd h Bool.false_ne_true) | (rename_i hq; cases hq)
    simp only [Bool.and_eq_true] at h
    exact .cast (pd_slc (sndE a X Wx _ g tk h.1.1).pe (sndP lo X Wx _ g tk h.1.2) (sndP hi X Wx _ g tk h.2)) (by funext ρ S; rw [evalE]) rfl
  | .call f es, X, Wx, e, g, tk, h => by
    unfold chkE at h
    split at h
    all_goals first | (exact absurd h Bool.false_ne_true) | (rename_i hq; cases hq)
    simp only [Bool.and_eq_true] at h
    obtain ⟨⟨⟨h1, h2⟩, h3⟩, h4⟩ := h
    split at h1
    · rename_i fi hf
      have h1 := of_decide_eq_true h1
      subst h1
      obtain ⟨a, fd, g1, g2, g3, g4, g5⟩ := g.fns f fi hf
      obtain ⟨b1, b2, b3⟩ := gloB_ok h2
      exact .cast (ce_call tk g4 g5 g.room b1 g1 g2 g3 b2 (sndEs es X Wx _ g tk h4) (by simpa using h3)) (by funext ρ S; rw [evalE]) rfl
    · cases h1
  | .bi b es, X, Wx, e, g, tk, h => by
    unfold chkE at h
    split at h
    all_goals first | (exact absurd h Bool.false_ne_true) | (rename_i hq; cases hq)
    simp only [Bool.and_eq_true, decide_eq_true_eq] at h
    obtain ⟨⟨⟨rfl, h2⟩, h3⟩, h4⟩ := h
    obtain ⟨a1, a2, a3, a4⟩ := freeB_ok g h2
    exact .cast (ce_bi b g.calm g.u70 a1 a4 (biN_boot b) a3 a2 (sndEs es X Wx _ g tk h4) (by simpa using h3)) (by funext ρ S; rw [evalE]) rfl
  | .isi a t, X, Wx, e, g, tk, h => by
    unfold chkE at h
    split at h
    all_goals first | (exact absurd h Bool.false_ne_true) | (rename_i hq; cases hq)
    simp only [Bool.and_eq_true, decide_eq_true_eq] at h
    obtain ⟨⟨⟨⟨⟨rfl, h2⟩, rfl⟩, h4⟩, h5⟩, h6⟩ := h
    obtain ⟨a1, a2, a3, a4⟩ := freeB_ok g h2
    obtain ⟨b1, b2, b3, b4⟩ := freeB_ok g h4
    exact .cast (ce_isi t a1 a4 b1 b4 (tyS_boot t) b3 b2 (sndE a X Wx _ g tk h6).pe h5) (by funext ρ S; rw [evalE]) rfl
  | .isit a ts, X, Wx, e, g, tk, h => by
    unfold chkE at h
    split at h
    all_goals first | (exact absurd h Bool.false_ne_true) | (rename_i hq; cases hq)
    simp only [Bool.and_eq_true, decide_eq_true_eq] at h
    obtain ⟨⟨⟨⟨⟨rfl, h2⟩, h3⟩, h4⟩, h5⟩, h6⟩ := h
    obtain ⟨a1, a2, a3, a4⟩ := freeB_ok g h2
    exact .cast (ce_isit ts a1 a4 (tysB_ok g h3) h4 (sndE a X Wx _ g tk h6).pe h5) (by funext ρ S; rw [evalE]) rfl
  | .mth m o es, X, Wx, e, g, tk, h => by
    unfold chkE at h
    split at h
    all_goals first | (exact absurd h Bool.false_ne_true) | (rename_i hq; cases hq)
    simp only [Bool.and_eq_true, decide_eq_true_eq] at h
    obtain ⟨⟨⟨⟨⟨⟨rfl, h2⟩, h3⟩, h4⟩, h5⟩, h6⟩, h7⟩ := h
    obtain ⟨a1, a2, a3⟩ := mt_facts m
    exact .cast (ce_mth m g.u65 a1 a2 a3 (sndE o X Wx _ g tk h6).pe (sndEs es X Wx _ g tk h7) (by simpa using h4) h5 (plainBase_ok h2) h3) (by funext ρ S; rw [evalE]) rfl
  | .lc tg it cs e', X, Wx, e, g, tk, h => by
    have key := (sndLc tg it cs e' X Wx e g tk h).pe g.calm g.nd
    obtain ⟨elt, tge, iter, ifs, scope, pos, rfl, h1, h2, h3, h4, h5, h6, h7⟩ := chk_lc h
    refine .cast (pd_of_L key) ?_ rfl
    funext ρ S
    rw [evalE, evalL]
    simp only [R.bind_assoc]
  | .dvals i j, X, Wx, e, g, tk, h => by
    unfold chkE at h
    split at h
    all_goals first | (exact absurd h Bool.false_ne_true) | (rename_i hq; cases hq; done) | skip
    rename_i x p1 kx p2 p3 k2 p4 x2 p5 scope pos hq
    cases hq
    simp only [Bool.and_eq_true, decide_eq_true_eq, Bool.not_eq_true', decide_eq_false_iff_not] at h
    obtain ⟨⟨⟨⟨⟨⟨⟨h1, h2⟩, h3⟩, h4⟩, h5⟩, rfl⟩, rfl⟩, h8⟩ := h
    obtain ⟨a1, a2, a3, a4⟩ := visB_ok h1
    have key := pe_dvals (X := X) (p1 := p1) (p2 := p2) (p3 := p3) (p4 := p4) (pos := pos) g.calm g.nd (by have := g.u70; omega) (pe_var (pos := p5) a1 a2 a3 a4) (blkOk_by h2) (ownOf_snd _ _) h8
      (fun s H C cl fp => by
        obtain ⟨b1, b2, b3⟩ := tgB_ok (X := X.blk s H scope (compEnvC scope cl C X.env) fp) (fun x hx => hx) h3
        exact pg_name g.nd b1 b2 b3)
      (fun s H C cl fp => by
        obtain ⟨b1, b2, b3, b4⟩ := visB_ok (X := X.blk s H scope (compEnvC scope cl C X.env) fp) h4
        exact pe_var b1 b2 b3 b4)
      (fun s H C cl fp => by
        obtain ⟨b1, b2, b3, b4⟩ := visB_ok (X := X.blk s H scope (compEnvC scope cl C X.env) fp) h5
        exact pe_var b1 b2 b3 b4) (fun _ => rfl)
    have hjN : X.N[j]? = some kx := by
      unfold tgB at h3
      simp only [Bool.and_eq_true, decide_eq_true_eq] at h3
      exact h3.1
    exact .cast (pd_dvals' (F := F) (List.getElem?_eq_some_iff.mp hjN).1 key) rfl rfl
  | .fz f es, X, Wx, e, g, tk, h => by
    unfold chkE at h
    split at h
    all_goals first | (exact absurd h Bool.false_ne_true) | (rename_i hq; cases hq; done) | skip
    · rename_i e1 x1 p1 x2 p2 a1 q1 q2 hq
      cases hq
      simp only [Bool.and_eq_true, decide_eq_true_eq] at h
      obtain ⟨⟨⟨⟨⟨rfl, h2⟩, rfl⟩, h4⟩, h5⟩, h6⟩ := h
      obtain ⟨a1, a2, a3, a4⟩ := freeB_ok g h2
      obtain ⟨b1, b2, b3, b4⟩ := freeB_ok g h4
      exact .cast (pd_sortset g.u70 g.calm a1 a4 b1 b4 h5 (sndE e1 X Wx _ g tk h6).pe) (fz_sortset e1) rfl
    · rename_i e1 x1 p1 x2 p2 a1 q1 q2 hq
      cases hq
      simp only [Bool.and_eq_true, decide_eq_true_eq] at h
      obtain ⟨⟨⟨⟨⟨rfl, h2⟩, rfl⟩, h4⟩, h5⟩, h6⟩ := h
      obtain ⟨a1, a2, a3, a4⟩ := freeB_ok g h2
      obtain ⟨b1, b2, b3, b4⟩ := freeB_ok g h4
      exact .cast (pd_lenset g.calm a1 a4 b1 b4 h5 (sndE e1 X Wx _ g tk h6).pe) (fz_lenset e1) rfl
  termination_by me => sizeOf me
theorem sndEs : ∀ (es : List ME) (X : Cx) (Wx : WX) (xs : List Expr), Gd G F xr k X → Takes X Wx → chkEs G X.N X.env.scope es xs = true → PA X xs (tDA X.K (wOf xr Wx) (evalEs F es))
  | [], X, Wx, xs, g, tk, h => by
    cases xs with
    | cons x xs => simp [chkEs] at h
    | nil =>
      have e : evalEs F [] = fun _ S => .ok [] S := by funext ρ S; rw [evalEs]
      rw [e]; exact pa_D0
  | e :: es, X, Wx, xs, g, tk, h => by
    cases xs with
    | nil => simp [chkEs] at h
    | cons x xs =>
      simp only [chkEs, Bool.and_eq_true] at h
      have e1 : evalEs F (e :: es) = fun ρ S => (evalE F e ρ S).bind fun v S1 => (evalEs F es ρ S1).bind fun vs S2 => .ok (v :: vs) S2 := by funext ρ S; rw [evalEs]
      rw [e1]
      exact pa_D (sndE e X Wx x g tk h.1.2).pe (sndEs es X Wx xs g tk h.2) (star_cons h.1.1)
  termination_by es => sizeOf es
theorem sndCs : ∀ (es : List ME) (X : Cx) (Wx : WX) (xs : List Expr), Gd G F xr k X → Takes X Wx → xs.length ≤ 1 → chkEs G X.N X.env.scope es xs = true → PTs X xs (tDT X.K (wOf xr Wx) (tests (evalCs F es)))
  | [], X, Wx, xs, g, tk, hl, h => ptsD hl (fun c x z => nomatch z) (chkEs_len h)
  | e :: es, X, Wx, xs, g, tk, hl, h => by
    refine ptsD hl (fun c x z1 z2 => ?_) (chkEs_len h)
    cases z1
    subst z2
    simp only [chkEs, Bool.and_eq_true] at h
    exact (sndE e X Wx x g tk h.1.2).pt
  termination_by es => sizeOf es
theorem sndP : ∀ (es : List ME) (X : Cx) (Wx : WX) (x : Option Expr), Gd G F xr k X → Takes X Wx → chkP G X.N X.env.scope es x = true → PO X x (tDO X.K (wOf xr Wx) (evalP F es))
  | [], X, Wx, x, g, tk, h => by
    cases x with
    | some x => rw [chkP_some] at h; cases h
    | none =>
      have e : evalP F [] = fun _ S => .ok none S := by funext ρ S; rw [evalP]
      rw [e]; exact po_D0
  | e :: es, X, Wx, x, g, tk, h => by
    cases x with
    | none => rw [chkP_none] at h; cases h
    | some x =>
      cases es with
      | cons e2 es => rw [chkP_two] at h; cases h
      | nil =>
        rw [chkP_one] at h
        have e1 : evalP F [e] = fun ρ S => (evalE F e ρ S).bind fun v S1 => match v with
            | .t (.int i) => .ok (some i) S1
            | _ => .bad := by funext ρ S; rw [evalP]; try rfl
        rw [e1]
        exact po_D (sndE e X Wx x g tk h).pe
  termination_by es => sizeOf es
theorem sndI : ∀ (it : IT) (X : Cx) (Wx : WX) (tge e : Expr), Gd G F xr k X → Takes X Wx → chkI G X.N X.env.scope it tge e = true → PI X tge e (tDI X.K (wOf xr Wx) (evalI F it))
  | .of e', X, Wx, tge, e, g, tk, h => by
    simp only [chkI] at h
    have e1 : evalI F (.of e') = fun ρ S => (evalE F e' ρ S).bind fun v S1 => R.opt (srcOf S1 v) S1 := by funext ρ S; rw [evalI]
    rw [e1]
    exact pi_D (sndE e' X Wx e g tk h).pe
  | .range1 e', X, Wx, tge, e, g, tk, h => by
    unfold chkI at h
    split at h
    all_goals first | (exact absurd h Bool.false_ne_true) | (rename_i hq; cases hq)
    simp only [Bool.and_eq_true, decide_eq_true_eq] at h
    obtain ⟨⟨⟨rfl, h2⟩, h3⟩, h4⟩ := h
    obtain ⟨a1, a2, a3, a4⟩ := freeB_ok g h2
    have e1 : evalI F (.range1 e') = fun ρ S => (evalE F e' ρ S).bind fun v S1 => match v with
        | .t (.int n) => if rngOk n then .ok (.fix (rangeD 0 n)) S1 else .bad
        | _ => .bad := by funext ρ S; rw [evalI]; try rfl
    rw [e1]
    exact pi_rng1 a1 a4 h3 (sndE e' X Wx _ g tk h4).pe
  | .range2 a b, X, Wx, tge, e, g, tk, h => by
    unfold chkI at h
    split at h
    all_goals first | (exact absurd h Bool.false_ne_true) | (rename_i hq; cases hq)
    simp only [Bool.and_eq_true, decide_eq_true_eq] at h
    obtain ⟨⟨⟨⟨⟨rfl, h2⟩, h3⟩, h4⟩, h5⟩, h6⟩ := h
    obtain ⟨a1, a2, a3, a4⟩ := freeB_ok g h2
    have e1 : evalI F (.range2 a b) = fun ρ S => (evalE F a ρ S).bind fun v S1 => (evalE F b ρ S1).bind fun u S2 => match v, u with
        | .t (.int i), .t (.int j) => if rngOk i && rngOk j then .ok (.fix (rangeD i j)) S2 else .bad
        | _, _ => .bad := by funext ρ S; rw [evalI]; try rfl
    rw [e1]
    exact pi_rng2 a1 a4 h3 h4 (sndE a X Wx _ g tk h5).pe (sndE b X Wx _ g tk h6).pe
  | .enum e', X, Wx, tge, e, g, tk, h => by
    unfold chkI at h
    split at h
    all_goals first | (exact absurd h Bool.false_ne_true) | (rename_i hq; cases hq)
    simp only [Bool.and_eq_true, decide_eq_true_eq] at h
    obtain ⟨⟨⟨⟨rfl, h2⟩, h3⟩, h4⟩, h5⟩ := h
    obtain ⟨a1, a2, a3, a4⟩ := freeB_ok g h2
    have e1 : evalI F (.enum e') = fun ρ S => (evalE F e' ρ S).bind fun v S1 => match v with
        | .t (.lst xs) => .ok (.fix (enumD xs)) S1
        | .t (.tup xs) => .ok (.fix (enumD xs)) S1
        | _ => .bad := by funext ρ S; rw [evalI]; try rfl
    rw [e1]
    unfold isTup at h3
    split at h3
    · exact pi_enumD a1 a4 h4 (sndE e' X Wx _ g tk h5).pe
    · cases h3
  | .zip a b, X, Wx, tge, e, g, tk, h => by
    unfold chkI at h
    split at h
    all_goals first | (exact absurd h Bool.false_ne_true) | (rename_i hq; cases hq)
    simp only [Bool.and_eq_true, decide_eq_true_eq] at h
    obtain ⟨⟨⟨⟨⟨⟨rfl, h2⟩, h0⟩, h3⟩, h4⟩, h5⟩, h6⟩ := h
    obtain ⟨a1, a2, a3, a4⟩ := freeB_ok g h2
    have e1 : evalI F (.zip a b) = fun ρ S => (evalE F a ρ S).bind fun v S1 => (evalE F b ρ S1).bind fun u S2 => match v, u with
        | .t (.lst xs), .t (.lst ys) => .ok (.fix (zipD xs ys)) S2
        | .t (.tup xs), .t (.tup ys) => .ok (.fix (zipD xs ys)) S2
        | _, _ => .bad := by funext ρ S; rw [evalI]; try rfl
    rw [e1]
    unfold isTup at h0
    split at h0
    · exact pi_zipD a1 a4 h3 h4 (sndE a X Wx _ g tk h5).pe (sndE b X Wx _ g tk h6).pe
    · cases h0
  termination_by it => sizeOf it
theorem sndLc : ∀ (tg : Tg) (it : IT) (cs : List ME) (e' : ME) (X : Cx) (Wx : WX) (e : Expr), Gd G F xr k X → Takes X Wx → chkE G X.N X.env.scope (.lc tg it cs e') e = true → LcOk (xr := xr) X (wOf xr Wx) F tg it cs e' e
  | tg, it, cs, e', X, Wx, e, g, tk, h => by
    obtain ⟨elt, tge, iter, ifs, scope, pos, rfl, h1, h2, h3, h4, h5, h6, h7⟩ := chk_lc h
    have hi := sndI it X Wx tge iter g tk h4
    refine ⟨elt, tge, iter, ifs, scope, pos, ownOf X.N (tgs tg), rfl, hi, blkOk_by h2, ownOf_snd _ _, notSet_ok h1, ?_, ?_, ?_⟩
    · intro s H C cl fp
      exact tgtB_ok (X := X.blk s H scope (compEnvC scope cl C X.env) fp) g.calm g.nd (fun x hx => hx) h3
    · intro s H C cl fp
      exact sndCs cs (X.blk s H scope (compEnvC scope cl C X.env) fp) (fun _ _ _ _ => False) ifs (g.blk ..) takes0 h5 h6
    · intro s H C cl fp
      exact (sndE e' (X.blk s H scope (compEnvC scope cl C X.env) fp) (fun _ _ _ _ => False) elt (g.blk ..) takes0 h7).pe
  termination_by tg it cs e' => sizeOf it + sizeOf cs + sizeOf e'
  decreasing_by
    all_goals simp_wf
    all_goals (have hp1 := it_pos it; have hp2 := ls_pos cs; omega)
end
end
end M

/-! what is checked is sound: statements, defs -/
namespace M
open PySem PySem.Spec PyProof.Rows L2

def notComp : Expr → Bool
  | .ListComp _ _ _ _ | .SetComp _ _ _ _ | .DictComp _ _ _ _ _ => false
  | _ => true
theorem swaps_not {v : Expr} {t : Option Expr} {l : Nat} {env : Env} (h : notComp v = true) : swapsWith v t l env = pure false := by
  unfold swapsWith
  cases v <;> first
    | (exfalso; cases h; done)
    | rfl
theorem swaps_tup {v : Expr} {es : List Expr} {k : Nat} {p : Pos} {l : Nat} {env : Env} : swapsWithSole [.Tuple es k p] v l env = pure false := by
  unfold swapsWithSole swapsWith
  cases v <;> rfl
theorem swaps_sub {v o i : Expr} {p : Pos} {l : Nat} {env : Env} : swapsWithSole [.Subscript o i p] v l env = pure false := by
  unfold swapsWithSole swapsWith
  cases v <;> rfl
def foldB : Expr → Bool
  | .Tuple vs _ _ => vs.all (foldedForSure 8)
  | _ => true
theorem sw_none {es : List Expr} {k : Nat} {p : Pos} {v : Expr} {env : Env} (h : foldB v = true) : swappedStores [.Tuple es k p] v env = pure none := by
  unfold swappedStores
  cases v with
  | Tuple vs k2 p2 =>
    have h : vs.all (foldedForSure 8) = true := h
    simp only [h]
    split <;> try rfl
    split <;> try rfl
    split <;> rfl
  | _ => rfl
theorem sw_none_sub {o i : Expr} {p : Pos} {v : Expr} {env : Env} : swappedStores [.Subscript o i p] v env = pure none := by
  unfold swappedStores
  cases v <;> rfl
def parB (sc : Scope) (x y : Str) (px py : Pos) (a b : Expr) : Bool :=
  isK .local (sc.names.lookup x) && isK .local (sc.names.lookup y) && (px.line == py.line) && !decide (x = y) && noStar a && noStar b && !([a, b].all (foldedForSure 8)) && !([a, b].all (constantsAlone 8))
theorem par_ok {env : Env} {x y : Str} {px py : Pos} {a b : Expr} {kt k2 : Nat} {pt pt2 : Pos} (hk : env.scope.kind = .function) (h : parB env.scope x y px py a b = true) :
    swappedStores [.Tuple [.Name x px, .Name y py] kt pt] (.Tuple [a, b] k2 pt2) env = pure (some [x, y]) := by
  unfold parB at h
  simp only [Bool.and_eq_true, Bool.not_eq_true', decide_eq_false_iff_not] at h
  obtain ⟨⟨⟨⟨⟨⟨⟨h1, h2⟩, h3⟩, h4⟩, h5⟩, h6⟩, h7⟩, h8⟩ := h
  have k1 : env.kindOf x = some .local := isK_eq h1
  have k2 : env.kindOf y = some .local := isK_eq h2
  have hb : env.blockKind = .function := by unfold Env.blockKind; rw [hk]; rfl
  have h3 : py.line = px.line := (eq_of_beq h3).symm
  have hd : ([x, y] : List Str).eraseDups = [x, y] := by
    have h4' : (y == x) = false := by simpa using fun z => h4 z.symm
    simp [List.eraseDups_cons, List.filter_cons, h4']
  unfold swappedStores
  simp only [hb, k1, k2, List.any_cons, List.any_nil, h7, h8, Expr.pos, h3]
  simp [hb, k1, k2, Expr.pos, h3, hd]
  intro z
  rcases z with z | z
  · cases a <;> first | (exfalso; cases h5; done) | (exfalso; cases z; done)
  · cases b <;> first | (exfalso; cases h6; done) | (exfalso; cases z; done)
def seqs (a b : Nat) : Bool := a == b
/-- y = [..], the target stored within the comprehension's frame -/
def swB (sc : Scope) (x : Str) (p : Pos) : Expr → Bool
  | .ListComp _ _ scope pos => isK .local (sc.names.lookup x) && (p.line == pos.line) && !(scope.names.any fun (n, k) => n == x && (k == .local || k == .cell))
  | _ => false
theorem swB_ok {env : Env} {x : Str} {p : Pos} {e : Expr} {l : Nat} (hk : env.scope.kind = .function) (h : swB env.scope x p e = true) : swapsWith e (some (.Name x p)) l env = pure true := by
  unfold swB at h
  split at h
  · simp only [Bool.and_eq_true, Bool.not_eq_true'] at h
    exact sw_true hk (isK_eq h.1.1) h.1.2 h.2
  · cases h
theorem isK_beq (o : Option NameKind) : (o == some NameKind.local) = isK .local o := by
  cases o with
  | none => rfl
  | some k => cases k <;> rfl
theorem swB_no {env : Env} {x : Str} {p : Pos} {e : Expr} {l : Nat} (hk : env.scope.kind = .function) (hs : (match e with | .SetComp _ _ _ _ | .DictComp _ _ _ _ _ => false | _ => true) = true) (h : swB env.scope x p e = false) : swapsWith e (some (.Name x p)) l env = pure false := by
  unfold swapsWith
  have hb : env.blockKind = .function := by unfold Env.blockKind; rw [hk]; rfl
  cases e with
  | ListComp a b scope pos =>
    unfold swB at h
    simp only at h ⊢
    rw [← isK_beq] at h
    rw [hb]
    have hkk : env.kindOf x = env.scope.names.lookup x := rfl
    rw [hkk]
    show pure ((ScopeKind.function == ScopeKind.function) && (env.scope.names.lookup x == some NameKind.local) && (p.line == pos.line) && !(scope.names.any fun (n, k) => n == x && (k == .local || k == .cell))) = _
    rw [show (ScopeKind.function == ScopeKind.function) = true from rfl, Bool.true_and, h]
  | SetComp _ _ _ _ => cases hs
  | DictComp _ _ _ _ _ => cases hs
  | _ => rfl

/-! ### new lists of other forms -/
section
variable {X : Cx} {W : WS} {a b : Expr} {ga gb : Ev → St' → R SV} {pos p : Pos}
def catR (ga gb : Ev → St' → R SV) : Ev → St' → R (List D) := fun ρ S => (ga ρ S).bind fun x S1 => (gb ρ S1).bind fun y S2 =>
      R.opt ((peek S2 x).bind fun d => (peek S2 y).bind fun e => match d, e with
        | .lst xs, .lst ys => if xs.length + ys.length ≤ sizeLine then some (xs ++ ys) else none
        | _, _ => none) S2
theorem pd_catL (ha : PE X a (tD X.K W ga)) (hb : PE X b (tD X.K W gb)) : PE X (.BinOp a .Add b pos) (tDL X.K W (catR ga gb)) := by
  refine PE_imp (pe_op op_catR ha hb) fun σ H Q ⟨m, S, ρ, ok, re, h⟩ => ?_
  refine ⟨m, S, ρ, ok, re, RunL.bind h fun x S1 H1 m1 ok1 f1 h1 v rv => ?_⟩
  refine ⟨m1, S1, ρ, ok1, re.mono f1, RunL.bind h1 fun y S2 H2 m2 ok2 f2 h2 u ru => ?_⟩
  revert h2
  cases e1 : peek S2 x with
  | none => exact fun h2 => h2.elim
  | some d =>
    cases e2 : peek S2 y with
    | none => exact fun h2 => h2.elim
    | some d2 =>
      simp only [Option.bind_some]
      cases d <;> try (exact fun h2 => h2.elim)
      cases d2 <;> try (exact fun h2 => h2.elim)
      simp only
      intro h2
      split at h2
      · rename_i xs ys hz
        obtain ⟨l1, vs, rfl, g1, g2⟩ := (ok2.peek (rv.mono f2) e1).lst
        obtain ⟨l2, ws, rfl, g3, g4⟩ := (ok2.peek ru e2).lst
        refine ⟨l1, l2, vs, ws, rfl, rfl, g1, g3, by rw [g2.length, g4.length]; exact hz, fun q hq => ?_⟩
        obtain ⟨ok3, f3⟩ := ok2.push hq (g2.append g4)
        exact h2 _ m2 q ok3 f3 (List.prefix_refl _)
      · exact h2.elim
def lstR' (ga : Ev → St' → R SV) : Ev → St' → R (List D) := fun ρ S => (ga ρ S).bind fun x S1 => R.opt ((peek S1 x).bind fun d => match d with
      | .lst xs => some xs
      | .tup xs => some xs
      | _ => none) S1
theorem pd_listL (hg : Gl X "list") (hm : X.mg "list" = none) (hst : noStar a = true) (ha : PE X a (tD X.K W ga)) : PE X (.Call (.Name "list" p) [a] [] pos) (tDL X.K W (lstR' ga)) := by
  refine PE_imp (pe_callTy call_list_of hg hm (biN_boot .list) (pa_cons ha pa_nil (star_cons hst)) (by decide) (by decide) (star_cons hst) (star_any rfl)) fun σ H Q ⟨m, S, ρ, ok, re, h⟩ => ?_
  refine ⟨m, S, ρ, ok, re, RunL.bind h fun x S1 H1 m1 ok1 f1 h1 v rv => ?_⟩
  revert h1
  cases e1 : peek S1 x with
  | none => exact fun h1 => h1.elim
  | some d =>
    simp only [Option.bind_some]
    cases d <;> try (exact fun h1 => h1.elim)
    · intro h1
      obtain ⟨l1, vs, rfl, g1, g2⟩ := (ok1.peek rv e1).tup
      refine ⟨l1, vs, rfl, .inr g1, fun q hq => ?_⟩
      obtain ⟨ok3, f3⟩ := ok1.push hq g2
      exact h1 _ m1 q ok3 f3 (List.prefix_refl _)
    · intro h1
      obtain ⟨l1, vs, rfl, g1, g2⟩ := (ok1.peek rv e1).lst
      refine ⟨l1, vs, rfl, .inl (.inl g1), fun q hq => ?_⟩
      obtain ⟨ok3, f3⟩ := ok1.push hq g2
      exact h1 _ m1 q ok3 f3 (List.prefix_refl _)
end

/-! ### checks of statements -/
def noSD : Expr → Bool
  | .SetComp _ _ _ _ | .DictComp _ _ _ _ _ => false
  | _ => true
def lform : ME → Bool
  | .lst _ | .lc _ _ _ _ | .bin .add _ _ | .bi .list [_] => true
  | _ => false
def notDv : ME → Bool
  | .dvals _ _ => false
  | _ => true
mutual
def chkS (G : Glo) (N : List Str) (sc : Scope) : MS → Stmt → Bool
  | .doc, .Expr (.Constant (.str _) _ _) _ => true
  | .pass, .Pass _ => true
  | .asg (.v i) e, .Assign [.Name x _] v _ => tgB N sc (fun _ => true) i x && noSD v && notDv e && chkE G N sc e v
  | .asg (.tp is) e, .Assign [.Tuple es _ _] v _ => tgsB N sc (fun _ => true) is es && foldB v && chkE G N sc e v
  | .par i j a b, .Assign [.Tuple [.Name x px, .Name y py] _ _] (.Tuple [u, v] _ _) _ => decide (N[i]? = some x) && decide (N[j]? = some y) && !decide (i = j) && parB sc x y px py u v && chkE G N sc a u && chkE G N sc b v
  | .new i e, .Assign [.Name x _] v _ => tgB N sc (fun _ => true) i x && noSD v && lform e && chkE G N sc e v
  | .aug i o e, .AugAssign (.Name x _) op v _ => opB o op && !decide (o = .pow) && tgB N sc (fun _ => true) i x && chkE G N sc e v
  | .app i e, .Expr (.Call (.Attribute (.Name x _) nm ap) [v] [] cp) _ => decide (nm = "append") && visB N sc i x && noStar v && (ap.endLine == cp.line) && chkE G N sc e v
  | .seti i k e, .Assign [.Subscript (.Name x _) y _] v _ => visB N sc i x && notSlice y && chkE G N sc k y && chkE G N sc e v
  | .newd i, .Assign [.Name x _] (.Dict [] [] _) _ => tgB N sc (fun _ => true) i x
  | .putd i k e, .Assign [.Subscript (.Name x _) (.Call (.Name t _) [y] [] _) _] v _ => visB N sc i x && decide (t = "tuple") && freeB G sc t && noStar y && chkE G N sc k y && chkE G N sc e v
  | .expr e, .Expr v _ => notComp v && chkE G N sc e v
  | .ret e, .Return (some v) _ => chkE G N sc e v
  | .retN, .Return none _ => true
  | .ife c a b, .If c' a' b' _ => chkE G N sc c c' && chkB G N sc a a' && chkB G N sc b b'
  | .for_ tg it body, .For tge iter body' [] _ => notSet iter && tgtB N sc (fun _ => true) tg tge && chkI G N sc it tge iter && chkB G N sc body body'
  | _, _ => false
def chkB (G : Glo) (N : List Str) (sc : Scope) : List MS → List Stmt → Bool
  | [], [] => true
  | s :: ss, t :: ts => chkS G N sc s t && chkB G N sc ss ts
  | _, _ => false
end
end M

/-! what is checked is sound: statements, defs -/
namespace M
open PySem PySem.Spec PyProof.Rows L2
section
variable {G : Glo} {F : FS} {xr : XR} {k : Nat}
/-- a statement y = [..] whose store is within -/
theorem ps_lcAny {X : Cx} {W : WS} {tg : Tg} {it : IT} {cs : List ME} {e' : ME} {e : Expr} {i : Nat} {y : Str} {py spos : Pos} (hc : X.calm = true) (hN : X.N.Nodup) (hk : X.env.scope.kind = .function) (h : LcOk (xr := xr) X W F tg it cs e' e) (hy : X.N[i]? = some y) (hsw : swB X.env.scope y py e = true) :
    PS X (.Assign [.Name y py] e spos) (fun E σ H => tDL X.K W (evalL F (.lc tg it cs e')) σ H fun x H1 => E.nx (σ.set i (some x)) H1) := by
  obtain ⟨elt, tge, iter, ifs, scope, pos, own, rfl, hi, ok, ho, hs, hg, ht, he⟩ := h
  have e1 : evalL F (.lc tg it cs e') = fun ρ S => (evalI F it ρ S).bind fun src S1 => lcSrc tg (tests (evalCs F cs)) (evalE F e') src ρ S1 := by funext ρ S; rw [evalL]
  have hyl : X.env.scope.names.lookup y = some .local := by
    unfold swB at hsw
    simp only [Bool.and_eq_true] at hsw
    exact isK_eq hsw.1.1
  rw [e1]
  exact PS_imp (ps_setLc hc hN hy hyl (swB_ok hk hsw) hi ok hg ht he hs) fun E σ H h => pd_lcL hc hN hi ok ho hg ht he hs σ H _ h
theorem Run_of_L {K : PySem.W.Frag} {W : WS} {E : Ends} {σ : L2.St} {ρ : Ev} {H : Hp} {m : List Addr} {S : St'} {r : R (List D)} {i : Nat} (re : RelE K H m S σ ρ)
    (h : RunO K W E H m S (Out.of ρ (r.bind fun xs S1 => R.ok (SV.t (.lst xs)) S1) fun v S1 => .nx (ρ.set i (some v)) S1)) : RunL K (fun x H1 => E.nx (σ.set i (some x)) H1) (W σ) H m S r := by
  cases r with
  | bad => exact h
  | exc c p S' => exact fun H1 m1 ok1 f1 => h H1 m1 σ ok1 f1 (re.mono f1)
  | ok xs S' =>
    intro H' m' p ok' f' hp
    have f2 := f'.pop ok' hp
    exact h H' m' _ ok'.pop.1 f2 ((re.mono f2).set i (d := .t (.lst xs)) ok'.pop.2.2)
theorem evalE_lc (tg : Tg) (it : IT) (cs : List ME) (e' : ME) : evalE F (.lc tg it cs e') = fun ρ S => (evalL F (.lc tg it cs e') ρ S).bind fun xs S1 => .ok (.t (.lst xs)) S1 := by
  funext ρ S
  rw [evalE, evalL, R.bind_assoc]
theorem snd_new {X : Cx} {Wx : WX} {me : ME} {e : Expr} (g : Gd G F xr k X) (tk : Takes X Wx) (hl : lform me = true) (h : chkE G X.N X.env.scope me e = true) : PE X e (tDL X.K (wOf xr Wx) (evalL F me)) := by
  unfold lform at hl
  split at hl
  · rename_i es
    unfold chkE at h
    split at h
    all_goals first | (exact absurd h Bool.false_ne_true) | (rename_i hq; cases hq)
    have e1 : evalL F (.lst es) = fun ρ S => (evalEs F es ρ S).bind fun vs S1 => match grabs S1 vs with
        | some (ds, S2) => if ds.length ≤ sizeLine then R.ok ds S2 else .bad
        | none => .bad := by funext ρ S; rw [evalL]; try rfl
    rw [e1]
    exact pd_lstL (sndEs es X Wx _ g tk h)
  · rename_i tg it cs e'
    exact (sndLc tg it cs e' X Wx e g tk h).pe g.calm g.nd
  · rename_i a b
    unfold chkE at h
    split at h
    all_goals first | (exact absurd h Bool.false_ne_true) | (rename_i hq; cases hq)
    simp only [Bool.and_eq_true] at h
    obtain ⟨⟨h1, h2⟩, h3⟩ := h
    rw [opB_eq h1]
    have e1 : evalL F (.bin .add a b) = catR (evalE F a) (evalE F b) := by funext ρ S; rw [evalL]; try rfl
    rw [e1]
    exact pd_catL (sndE a X Wx _ g tk h2).pe (sndE b X Wx _ g tk h3).pe
  · rename_i a
    unfold chkE at h
    split at h
    all_goals first | (exact absurd h Bool.false_ne_true) | (rename_i hq; cases hq)
    rename_i x1 p1 y1 ys1 pos1
    simp only [Bool.and_eq_true, decide_eq_true_eq] at h
    obtain ⟨⟨⟨rfl, h2⟩, h3⟩, h4⟩ := h
    obtain ⟨a1, a2, a3, a4⟩ := freeB_ok g h2
    have hlen := chkEs_len h4
    cases ys1 with
    | cons z zs => simp at hlen
    | nil =>
      simp only [chkEs, Bool.and_eq_true] at h4
      have e1 : evalL F (.bi .list [a]) = lstR' (evalE F a) := by funext ρ S; rw [evalL]; try rfl
      rw [e1]
      exact pd_listL a1 a4 h4.1.1 (sndE a X Wx _ g tk h4.1.2).pe
  · cases hl

theorem lform_dv {me : ME} (h : lform me = true) : notDv me = true := by
  cases me <;> first | rfl | (cases h; done)

/-- what a def's own block has -/
structure Bk (X : Cx) : Prop where
  kind : X.env.scope.kind = .function
  fn : ∀ x, X.fn x = true
  pass : PassesOwn (model X.prog X.w) X.A X.env X.xe
theorem swB_lc {sc : Scope} {x : Str} {p : Pos} {v : Expr} {N : List Str} {me : ME} (h : swB sc x p v = true) (hd : notDv me = true) (hc : chkE G N sc me v = true) : ∃ tg it cs e', me = .lc tg it cs e' := by
  unfold swB at h
  split at h
  · unfold chkE at hc
    split at hc
    all_goals first | (exact absurd hc Bool.false_ne_true) | (rename_i hq; cases hq; done) | exact ⟨_, _, _, _, rfl⟩ | (cases hd; done)
  · cases h
theorem swB_no' {env : Env} {x : Str} {p : Pos} {e : Expr} {l : Nat} (hk : env.scope.kind = .function) (hs : noSD e = true) (h : swB env.scope x p e = false) : swapsWith e (some (.Name x p)) l env = pure false := by
  refine swB_no hk ?_ h
  clear h
  cases e <;> first | rfl | (exfalso; cases hs; done)
theorem assign_sub {env : Env} {o b : Expr} {p3 : Pos} (h : notSlice b = true) (v : Value) : assign (.Subscript o b p3) env v = (do
      let ov ← holding [v] (eval o env)
      let iv ← holding [v, ov] (eval b env)
      standAt p3
      holding [v, ov, iv] (setItem ov iv v)
      release [v, ov, iv] []) := by
  cases b <;> first | rfl | (exfalso; cases h; done)
mutual
theorem sndS : ∀ (ms : MS) (X : Cx) (Wx : WX) (st : Stmt), Gd G F xr k X → Bk X → Takes X Wx → chkS G X.N X.env.scope ms st = true → PS X st (tDS X.K (wOf xr Wx) (execS F ms))
  | .doc, X, Wx, st, g, b, tk, h => by
    unfold chkS at h
    split at h
    all_goals first | (exact absurd h Bool.false_ne_true) | (rename_i hq; cases hq; done) | skip
    exact ps_docD
  | .pass, X, Wx, st, g, b, tk, h => by
    unfold chkS at h
    split at h
    all_goals first | (exact absurd h Bool.false_ne_true) | (rename_i hq; cases hq; done) | skip
    exact ps_passD
  | .asg (.v i) e, X, Wx, st, g, b, tk, h => by
    unfold chkS at h
    split at h
    all_goals first | (exact absurd h Bool.false_ne_true) | (rename_i hq; cases hq; done) | skip
    rename_i x px v pos hq
    cases hq
    simp only [Bool.and_eq_true] at h
    obtain ⟨⟨⟨h1, h2⟩, h0⟩, h3⟩ := h
    obtain ⟨a1, a2, a3⟩ := tgB_ok (fun x _ => b.fn x) h1
    by_cases hs : swB X.env.scope x px v = true
    · obtain ⟨tg, it, cs, e', rfl⟩ := swB_lc hs h0 h3
      refine PS_imp (ps_lcAny g.calm g.nd b.kind (sndLc tg it cs e' X Wx v g tk h3) a1 hs) fun E σ H ⟨m, S, ρ, ok, re, h⟩ => ⟨m, S, ρ, ok, re, Run_of_L re ?_⟩
      rw [execS, evalE_lc] at h
      exact h
    · exact ps_setD g.nd a1 a2 a3 (swB_no' b.kind h2 (by simpa using hs)) (sndE e X Wx v g tk h3).pe
  | .asg (.tp is) e, X, Wx, st, g, b, tk, h => by
    unfold chkS at h
    split at h
    all_goals first | (exact absurd h Bool.false_ne_true) | (rename_i hq; cases hq; done) | skip
    rename_i es k2 p2 v pos hq
    cases hq
    simp only [Bool.and_eq_true] at h
    obtain ⟨⟨h1, h2⟩, h3⟩ := h
    exact ps_tpD g.calm g.nd (tgsB_ok (fun x _ => b.fn x) h1) swaps_tup (sw_none h2) (sndE e X Wx v g tk h3).pe
  | .par i j a c, X, Wx, st, g, b, tk, h => by
    unfold chkS at h
    split at h
    all_goals first | (exact absurd h Bool.false_ne_true) | (rename_i hq; cases hq; done) | skip
    rename_i x px y py k1 p1 u v k2 p2 pos hq
    cases hq
    simp only [Bool.and_eq_true, decide_eq_true_eq, Bool.not_eq_true', decide_eq_false_iff_not] at h
    obtain ⟨⟨⟨⟨⟨h1, h2⟩, h3⟩, h4⟩, h5⟩, h6⟩ := h
    have h4' := h4
    unfold parB at h4'
    simp only [Bool.and_eq_true, Bool.not_eq_true', decide_eq_false_iff_not] at h4'
    obtain ⟨⟨⟨⟨⟨⟨⟨b1, b2⟩, b3⟩, b4⟩, b5⟩, b6⟩, b7⟩, b8⟩ := h4'
    exact ps_parD g.calm g.nd h1 h2 h3 (isK_eq b1) (isK_eq b2) b5 b6 (sndE a X Wx u g tk h5).pe (sndE c X Wx v g tk h6).pe (par_ok b.kind h4)
  | .new i e, X, Wx, st, g, b, tk, h => by
    unfold chkS at h
    split at h
    all_goals first | (exact absurd h Bool.false_ne_true) | (rename_i hq; cases hq; done) | skip
    rename_i x px v pos hq
    cases hq
    simp only [Bool.and_eq_true] at h
    obtain ⟨⟨⟨h1, h2⟩, h0⟩, h3⟩ := h
    obtain ⟨a1, a2, a3⟩ := tgB_ok (fun x _ => b.fn x) h1
    by_cases hs : swB X.env.scope x px v = true
    · obtain ⟨tg, it, cs, e', rfl⟩ := swB_lc hs (lform_dv h0) h3
      refine PS_imp (ps_lcAny g.calm g.nd b.kind (sndLc tg it cs e' X Wx v g tk h3) a1 hs) fun E σ H ⟨m, S, ρ, ok, re, h⟩ => ⟨m, S, ρ, ok, re, ?_⟩
      rw [execS] at h
      refine RunO.ofL re h fun xs S' H' m' q ok' f' hp hk => ?_
      have hl : m'.length = S'.length := by have := ok'.len; simpa using this
      exact hk H' _ _ ok' f' ((re.mono f').set i (show RepS X.K H' (m' ++ [q]) (S' ++ [.lst xs]) (.ref q) (.o S'.length) from ⟨q, by rw [← hl]; simp, rfl⟩))
    · exact ps_newD g.nd a1 a2 a3 (swB_no' b.kind h2 (by simpa using hs)) (snd_new g tk h0 h3)
  | .aug i o e, X, Wx, st, g, b, tk, h => by
    unfold chkS at h
    split at h
    all_goals first | (exact absurd h Bool.false_ne_true) | (rename_i hq; cases hq; done) | skip
    rename_i x px op v pos hq
    cases hq
    simp only [Bool.and_eq_true, Bool.not_eq_true', decide_eq_false_iff_not] at h
    obtain ⟨⟨⟨h1, h2⟩, h3⟩, h4⟩ := h
    obtain ⟨a1, a2, a3⟩ := tgB_ok (fun x _ => b.fn x) h3
    rw [opB_eq h1]
    exact ps_augD h2 g.nd a1 a2 a3 (sndE e X Wx v g tk h4).pe
  | .app i e, X, Wx, st, g, b, tk, h => by
    unfold chkS at h
    split at h
    all_goals first | (exact absurd h Bool.false_ne_true) | (rename_i hq; cases hq; done) | skip
    rename_i x px nm ap v cp pos hq
    cases hq
    simp only [Bool.and_eq_true, decide_eq_true_eq] at h
    obtain ⟨⟨⟨⟨rfl, h2⟩, h3⟩, h4⟩, h5⟩ := h
    obtain ⟨a1, a2, a3, a4⟩ := visB_ok h2
    exact ps_appD a1 a2 a3 a4 h3 h4 (sndE e X Wx v g tk h5).pe
  | .seti i kk e, X, Wx, st, g, b, tk, h => by
    unfold chkS at h
    split at h
    all_goals first | (exact absurd h Bool.false_ne_true) | (rename_i hq; cases hq; done) | skip
    rename_i x px y p2 v pos hq
    cases hq
    simp only [Bool.and_eq_true] at h
    obtain ⟨⟨⟨h1, h2⟩, h3⟩, h4⟩ := h
    obtain ⟨a1, a2, a3, a4⟩ := visB_ok h1
    exact ps_setiD a1 a2 a3 a4 swaps_sub sw_none_sub (assign_sub h2) (sndE e X Wx v g tk h4).pe (sndE kk X Wx y g tk h3).pe
  | .newd i, X, Wx, st, g, b, tk, h => by
    unfold chkS at h
    split at h
    all_goals first | (exact absurd h Bool.false_ne_true) | (rename_i hq; cases hq; done) | skip
    rename_i x px p2 pos hq
    cases hq
    obtain ⟨a1, a2, a3⟩ := tgB_ok (fun x _ => b.fn x) h
    have e1 : execS F (.newd i) = fun ρ S => .nx (ρ.set i (some (.o S.length))) (S ++ [.dt []]) := by funext ρ S; rw [execS]
    rw [e1]
    exact ps_newdD g.nd a1 a2 a3
  | .putd i kk e, X, Wx, st, g, b, tk, h => by
    unfold chkS at h
    split at h
    all_goals first | (exact absurd h Bool.false_ne_true) | (rename_i hq; cases hq; done) | skip
    rename_i x px t pt y p4 p2 v pos hq
    cases hq
    simp only [Bool.and_eq_true, decide_eq_true_eq] at h
    obtain ⟨⟨⟨⟨⟨h1, rfl⟩, h2⟩, h3⟩, h4⟩, h5⟩ := h
    obtain ⟨a1, a2, a3, a4⟩ := visB_ok h1
    obtain ⟨b1, b2, b3, b4⟩ := freeB_ok g h2
    exact ps_putdD (by have := g.u70; omega) a1 a2 a3 a4 b1 b4 h3 (sndE e X Wx v g tk h5).pe (sndE kk X Wx y g tk h4).pe (by unfold swapsWith; cases v <;> rfl)
  | .expr e, X, Wx, st, g, b, tk, h => by
    unfold chkS at h
    split at h
    all_goals first | (exact absurd h Bool.false_ne_true) | (rename_i hq; cases hq; done) | skip
    rename_i v pos hq
    cases hq
    simp only [Bool.and_eq_true] at h
    exact ps_exprD (sndE e X Wx v g tk h.2).pe (swaps_not h.1)
  | .ret e, X, Wx, st, g, b, tk, h => by
    unfold chkS at h
    split at h
    all_goals first | (exact absurd h Bool.false_ne_true) | (rename_i hq; cases hq; done) | skip
    rename_i v pos hq
    cases hq
    exact ps_retD (sndE e X Wx v g tk h).pe
  | .retN, X, Wx, st, g, b, tk, h => by
    unfold chkS at h
    split at h
    all_goals first | (exact absurd h Bool.false_ne_true) | (rename_i hq; cases hq; done) | skip
    exact ps_retND
  | .ife c a d, X, Wx, st, g, b, tk, h => by
    unfold chkS at h
    split at h
    all_goals first | (exact absurd h Bool.false_ne_true) | (rename_i hq; cases hq; done) | skip
    rename_i c' a' d' pos hq
    cases hq
    simp only [Bool.and_eq_true] at h
    obtain ⟨⟨h1, h2⟩, h3⟩ := h
    exact ps_ifD (sndE c X Wx c' g tk h1).pt (sndB a X Wx a' g b tk h2) (sndB d X Wx d' g b tk h3)
  | .for_ tg it body, X, Wx, st, g, b, tk, h => by
    unfold chkS at h
    split at h
    all_goals first | (exact absurd h Bool.false_ne_true) | (rename_i hq; cases hq; done) | skip
    rename_i tge iter body' pos hq
    cases hq
    simp only [Bool.and_eq_true] at h
    obtain ⟨⟨⟨h1, h2⟩, h3⟩, h4⟩ := h
    exact ps_forD b.pass g.calm (notSet_ok h1) (sndI it X Wx tge iter g tk h3) (tgtB_ok g.calm g.nd (fun x _ => b.fn x) h2) (sndB body X Wx body' g b tk h4)
termination_by ms => sizeOf ms
theorem sndB : ∀ (ms : List MS) (X : Cx) (Wx : WX) (st : List Stmt), Gd G F xr k X → Bk X → Takes X Wx → chkB G X.N X.env.scope ms st = true → PSs X st (tDS X.K (wOf xr Wx) (execB F ms))
  | [], X, Wx, [], g, b, tk, h => pss_D0
  | s :: ss, X, Wx, t :: ts, g, b, tk, h => by
    rw [chkB, Bool.and_eq_true] at h
    exact pss_D (sndS s X Wx t g b tk h.1) (sndB ss X Wx ts g b tk h.2)
  | [], X, Wx, _ :: _, g, b, tk, h => by simp [chkB] at h
  | _ :: _, X, Wx, [], g, b, tk, h => by simp [chkB] at h
termination_by ms => sizeOf ms
end
end
end M

/-! defs, and all defs of a table by depth -/
namespace M
open PySem PySem.Spec PyProof.Rows L2

theorem Fr.take {H H' : Hp} {m m' : List Addr} {S S' : St'} (f : Fr H m S H' m' S') (hl : m.length = S.length) : Fr H m S H' m (S'.take S.length) := by
  refine ⟨fun a o e n => ⟨(f.1 a o e n).1, fun ⟨i, e1, o', e2, ne⟩ => (f.1 a o e n).2 ?_⟩, List.prefix_refl _⟩
  have hi : i < m.length := (List.getElem?_eq_some_iff.mp e1).1
  obtain ⟨t, rfl⟩ := f.2
  refine ⟨i, by rw [List.getElem?_append_left hi]; exact e1, o', ?_, ne⟩
  rw [List.getElem?_take_of_lt (by omega)] at e2
  exact e2
theorem StOk.take' {K : PySem.W.Frag} {H H' : Hp} {m m' : List Addr} {S S' : St'} (ok : StOk K H' m' S') (f : Fr H m S H' m' S') (hl : m.length = S.length) : StOk K H' m (S'.take S.length) := by
  obtain ⟨t, rfl⟩ := f.2
  have := ok.take S.length
  rwa [← hl, List.take_left, hl] at this
theorem Own.take {m m' : List Addr} {S' : St'} (hp : m <+: m') (n : Nat) {a : Addr} (h : Own m (S'.take n) a) : Own m' S' a := by
  obtain ⟨i, e1, o, e2, ne⟩ := h
  obtain ⟨t, rfl⟩ := hp
  refine ⟨i, by rw [List.getElem?_append_left (List.getElem?_eq_some_iff.mp e1).1]; exact e1, o, ?_, ne⟩
  by_cases hi : i < n
  · rw [List.getElem?_take_of_lt hi] at e2; exact e2
  · rw [List.getElem?_eq_none (by simp; omega)] at e2; cases e2
/-- what a module gives its defs -/
structure GdM (G : Glo) (F : FS) (xr : XR) (k : Nat) (P : Program) (w : World) (K : PySem.W.Frag) (mg : Str → Option Value) (base : Heap) : Prop where
  fns : ∀ f fi, G.fns[f]? = some fi → ∃ (a : Addr) (fd : FuncData), mg fi.name = some (.ref a) ∧ PySem.W.keepIn K (.ref a) = true ∧ Binds K fd fi.ps [] ∧ FnOk P w K mg base (L2.CX P w) k a fd fi.ps (spOf K xr fi.ps.length (F f)) ∧ ∀ ds S, F f ds S ≠ .bad → ds.length = fi.ps.length
  free : ∀ x ∈ G.free, mg x = none
  consts : ∀ p ∈ G.consts, ∃ (u : Value) (v : V), mg p.1 = some u ∧ RelV v u ∧ ∀ H N, Rep K H N v p.2
/-- an exception's word outlives the call's own objects -/
def XrOk (xr : XR) : Prop := ∀ c p cls d H m m' S (n : Nat), m <+: m' → xr c p cls d H m' S → xr c p cls d H m (S.take n)
theorem GdM.at {G : Glo} {F : FS} {xr : XR} {k : Nat} {X : Cx} (g : GdM G F xr k X.prog X.w X.K X.mg X.base) (nd : X.N.Nodup) (calm : X.calm = true) (room : Room k X.A) : Gd G F xr k X := ⟨nd, calm, room, g.fns, g.free, g.consts⟩
theorem start_rel {K : PySem.W.Frag} {H : Hp} {m : List Addr} {S : St'} {vs : List V} {ds : List SV} {N : List Str} (r : RepSs K H m S vs ds) : RelE K H m S (L2.start N vs) (ds.map some ++ List.replicate (N.length - ds.length) none) := by
  have hl := r.length
  refine ⟨by unfold L2.start; simp [hl], fun i d e => ?_⟩
  unfold L2.start
  by_cases hi : i < ds.length
  · rw [List.getElem?_append_left (by simpa using hi)] at e
    rw [List.getElem?_append_left (by simp; omega)]
    rw [List.getElem?_map] at e ⊢
    obtain ⟨d', e1, e2⟩ := Option.map_eq_some_iff.mp e
    cases e2
    clear e hl hi
    induction r generalizing i with
    | nil => simp at e1
    | cons q r ih =>
      cases i with
      | zero => cases e1; exact ⟨_, rfl, q⟩
      | succ i => exact ih i e1
  · rw [List.getElem?_append_right (by simp; omega)] at e
    rw [List.getElem?_replicate] at e
    split at e <;> cases e
theorem fn_ok {G : Glo} {F : FS} {xr : XR} {k : Nat} {P : Program} {w : World} {K : PySem.W.Frag} {mg : Str → Option Value} {base : Heap} {x qual : Str} {params : Arguments} {body : List Stmt} {scope : Scope} {dvs : List V} {kws : List (Str × V)} {f : Addr} {fd : FuncData} {N ps : List Str} {fn : Fn}
    (FD : FunD K x qual params body scope dvs kws f fd) (Sc : FnScope N ps scope) (har : fn.ar = ps.length) (hsl : fn.sl = N.length) (hx : XrOk xr) (g : GdM G F xr k P w K mg base) (hchk : chkB G N scope fn.body body = true) :
    FnOk P w K mg base (L2.CX P w) (k + 1) f fd ps (spOf K xr ps.length (callF F fn)) := by
  refine FD.ok Sc (fun vs H Q E h => h.1) fun cdv A outer s H vs Q E hr hsp => ?_
  obtain ⟨X, hX⟩ : ∃ X, X = cxOf (L2.CX P w) P w K mg base N qual scope f cdv A outer s H E := ⟨_, rfl⟩
  have tk : Takes X (fun cls d _ H => E cls d H) := by subst hX; exact takes_of rfl rfl rfl rfl
  have bk : Bk X := by subst hX; exact ⟨Sc.kind, fun _ => rfl, passes_of rfl⟩
  have gd : Gd G F xr k X := by subst hX; exact GdM.at g Sc.nd rfl hr
  have hc : chkB G X.N X.env.scope fn.body body = true := by subst hX; exact hchk
  refine ⟨_, by rw [← hX]; exact sndB fn.body X _ body gd bk tk hc, ?_⟩
  obtain ⟨hl, m, S, ds, ok, rs, h⟩ := hsp
  have hK : X.K = K := by subst hX; rfl
  rw [hK]
  refine ⟨m, S, ds.map some ++ List.replicate (N.length - ds.length) none, ok, start_rel rs, ?_⟩
  unfold callF at h
  have hdl : ds.length = fn.ar := by rw [← rs.length, hl, har]
  rw [if_pos hdl, hsl] at h
  have hml := ok.len
  revert h
  cases execB F fn.body (ds.map some ++ List.replicate (N.length - ds.length) none) S with
  | nx ρ S' => exact fun h H' m' σ' ok' f' r' => h H' .non (ok'.take' f' hml) (f'.take hml) .non
  | bk ρ S' => exact fun h => h.elim
  | ct ρ S' => exact fun h => h.elim
  | bad => exact fun h => h
  | exc c p ρ S' => exact fun h H' m' σ' ok' f' r' cls d hxr => h H' cls d (ok'.take' f' hml) (f'.take hml) (hx _ _ _ _ _ _ _ _ _ f'.2 hxr)
  | rt v S' =>
    intro h H' m' u ok' f' r'
    unfold finish at h
    have up : ∀ {d : D}, Rep K H' (Own m' S') u d → Rep K H' (Own m (S'.take S.length)) u d := fun r => Rep.mono (fun a o e n => ⟨e, fun (z : Own m (S'.take S.length) a) => n (Own.take f'.2 _ z)⟩) r
    cases v with
    | t d => exact h H' u (ok'.take' f' hml) (f'.take hml) (up r')
    | o i =>
      simp only at h
      obtain ⟨a, e1, rfl⟩ := r'
      split at h
      · rename_i hi
        refine h H' _ (ok'.take' f' hml) (f'.take hml) ⟨a, ?_, rfl⟩
        obtain ⟨t, rfl⟩ := f'.2
        rw [List.getElem?_append_left (by omega)] at e1
        exact e1
      · rename_i hi
        split at h
        · rename_i xs hxs
          obtain ⟨vs, g1, g2⟩ := ok'.at_ i a _ e1 hxs
          refine h H' _ (ok'.take' f' hml) (f'.take hml) ?_
          refine .lst ?_ (Reps.mono (fun a o e n => ⟨e, fun (z : Own m (S'.take S.length) a) => n (Own.take f'.2 _ z)⟩) g2)
          refine ⟨.of g1, ?_⟩
          rintro ⟨j, e2, o, e3, ne⟩
          have hj : j < m.length := (List.getElem?_eq_some_iff.mp e2).1
          obtain ⟨t, rfl⟩ := f'.2
          have e2' : (m ++ t)[j]? = some a := by rw [List.getElem?_append_left hj]; exact e2
          have hnd := ok'.nd
          have hji : j = i := (List.getElem?_inj (List.getElem?_eq_some_iff.mp e2').1 hnd).mp (e2'.trans e1.symm)
          omega
        · exact h.elim
/-- a def of the table, and the text it is of -/
structure DfOk (G : Glo) (T : List Fn) (K : PySem.W.Frag) (mg : Str → Option Value) (i : Nat) (fi : FI) : Prop where
  ex : ∃ (a : Addr) (fd : FuncData) (x qual : Str) (params : Arguments) (body : List Stmt) (scope : Scope) (dvs : List V) (kws : List (Str × V)) (N : List Str) (fn : Fn),
    mg fi.name = some (.ref a) ∧ Binds K fd fi.ps [] ∧ FunD K x qual params body scope dvs kws a fd ∧ FnScope N fi.ps scope ∧ T[i]? = some fn ∧ fn.ar = fi.ps.length ∧ fn.sl = N.length ∧ chkB G N scope fn.body body = true
theorem all_ok {G : Glo} {T : List Fn} {xr : XR} {P : Program} {w : World} {K : PySem.W.Frag} {mg : Str → Option Value} {base : Heap} (hx : XrOk xr) (hd : ∀ i fi, G.fns[i]? = some fi → DfOk G T K mg i fi) (free : ∀ x ∈ G.free, mg x = none)
    (consts : ∀ p ∈ G.consts, ∃ (u : Value) (v : V), mg p.1 = some u ∧ RelV v u ∧ ∀ H N, Rep K H N v p.2) : ∀ n, GdM G (FT T n) xr n P w K mg base
  | 0 => ⟨fun i fi hi => by
      obtain ⟨a, fd, x, qual, params, body, scope, dvs, kws, N, fn, h1, h2, h3, h4, h5, h6, h7, h8⟩ := (hd i fi hi).ex
      refine ⟨a, fd, h1, h3.kp, h2, ⟨fun vs H Q E h => h.1, fun A outer s H args us vs Q E _ _ _ _ h => ?_⟩, fun ds S h => absurd rfl h⟩
      obtain ⟨_, m, S, ds, _, _, h⟩ := h
      exact h.elim, free, consts⟩
  | n + 1 => ⟨fun i fi hi => by
      have ih := all_ok (P := P) (w := w) (base := base) hx hd free consts n
      obtain ⟨a, fd, x, qual, params, body, scope, dvs, kws, N, fn, h1, h2, h3, h4, h5, h6, h7, h8⟩ := (hd i fi hi).ex
      have e : FT T (n + 1) i = callF (FT T n) fn := by funext ds S; simp only [FT, h5]
      refine ⟨a, fd, h1, h3.kp, h2, by rw [e]; exact fn_ok h3 h4 h6 h7 hx ih h8, fun ds S h => ?_⟩
      rw [e] at h
      unfold callF at h
      split at h
      · rename_i hq; rw [hq, h6]
      · exact absurd rfl h, free, consts⟩
end M

/-! the head: a law's defs, its module's constants -/
namespace M
open PySem PySem.Spec PyProof.Rows L2

/-! ### constants -/
mutual
def valB (K : PySem.W.Frag) : D → Value → Bool
  | .non, .none => true
  | .bl b, .bool c => b == c
  | .int i, .int j _ => decide (i = j)
  | .str x, .str y _ => decide (x = y)
  | .tup ds, .ref a => (match K.lookup a with
    | some ⟨.type c, _, .seq its _, _⟩ => decide (c = "tuple") && decide (its.size ≤ sizeLine) && valsB K ds its.toList
    | _ => false)
  | _, _ => false
def valsB (K : PySem.W.Frag) : List D → List Value → Bool
  | [], [] => true
  | d :: ds, u :: us => valB K d u && valsB K ds us
  | _, _ => false
end
mutual
theorem valB_ok {K : PySem.W.Frag} : ∀ (d : D) (u : Value), valB K d u = true → ∃ v, RelV v u ∧ ∀ H N, Rep K H N v d
  | .non, u, h => by cases u <;> first | exact ⟨.non, rfl, fun _ _ => .non⟩ | simp [valB] at h
  | .bl b, u, h => by
    cases u <;> simp [valB] at h
    subst h; exact ⟨.bl _, rfl, fun _ _ => .bl _⟩
  | .int b, u, h => by
    cases u <;> simp [valB] at h
    subst h; exact ⟨.int _, ⟨_, rfl⟩, fun _ _ => .int _⟩
  | .str b, u, h => by
    cases u <;> simp [valB] at h
    subst h; exact ⟨.str _, ⟨_, rfl⟩, fun _ _ => .str _⟩
  | .tup ds, u, h => by
    cases u with
    | ref a =>
      rw [valB] at h
      split at h
      · rename_i c od its n osl hq
        simp only [Bool.and_eq_true, decide_eq_true_eq] at h
        obtain ⟨⟨rfl, h2⟩, h3⟩ := h
        obtain ⟨vs, h4, h5⟩ := valsB_ok ds its.toList h3
        exact ⟨.ref a, rfl, fun H N => .tup (.inr ⟨_, its, n, hq, rfl, rfl, h2, h4⟩) (h5 H N)⟩
      · cases h
    | _ => simp [valB] at h
  | .lst _, u, h => by cases u <;> simp [valB] at h
  | .dct _, u, h => by cases u <;> simp [valB] at h
  | .ins _ _, u, h => by cases u <;> simp [valB] at h
theorem valsB_ok {K : PySem.W.Frag} : ∀ (ds : List D) (us : List Value), valsB K ds us = true → ∃ vs, Vals vs us ∧ ∀ H N, Reps K H N vs ds
  | [], [], _ => ⟨[], .nil, fun _ _ => .nil⟩
  | [], _ :: _, h => by simp [valsB] at h
  | _ :: _, [], h => by simp [valsB] at h
  | d :: ds, u :: us, h => by
    rw [valsB, Bool.and_eq_true] at h
    obtain ⟨v, h1, h2⟩ := valB_ok d u h.1
    obtain ⟨vs, h3, h4⟩ := valsB_ok ds us h.2
    exact ⟨v :: vs, .cons h1 h3, fun H N => .cons (h2 H N) (h4 H N)⟩
end
def noL (K : PySem.W.Frag) : Bool := K.all fun p => match p.2.cls with
  | .type c => !decide (c = "list")
  | _ => true
theorem look_mem {a : Addr} {o : Obj} : ∀ {K : PySem.W.Frag}, K.lookup a = some o → (a, o) ∈ K
  | [], h => by cases h
  | (b, u) :: K, h => by
    rw [List.lookup_cons] at h
    split at h
    · rename_i e; cases h; rw [eq_of_beq e]; exact List.mem_cons_self
    · exact List.mem_cons_of_mem _ (look_mem h)
theorem noL_ok {K : PySem.W.Frag} (h : noL K = true) {a : Addr} {o : Obj} (e : K.lookup a = some o) : o.cls ≠ .type "list" := by
  have := List.all_eq_true.mp h _ (look_mem e)
  intro z
  simp [z] at this
def conB (K : PySem.W.Frag) (p : Str × D) : Bool := match PySem.W.nsIn K mainGlobals p.1 with
  | some (some u) => valB K p.2 u
  | _ => false
def exB (cs : List (Str × D)) (K : PySem.W.Frag) : Bool := noL K && cs.all (conB K)

/-! ### the table of a law -/
structure En where
  d : He.DefD
  fi : FI
  N : List Str
  f : Fn
def scB (N ps : List Str) (sc : Scope) : Bool :=
  (match sc.kind with | .function => true | _ => false) && !sc.isCoroutine && !sc.isGenerator && decide N.Nodup && decide (N.take ps.length = ps) && (ps.all fun x => isK .local (sc.names.lookup x) || isK .cell (sc.names.lookup x)) && (sc.names.all fun y => !isK .free (some y.2))
theorem scB_ok {N ps : List Str} {sc : Scope} (h : scB N ps sc = true) : FnScope N ps sc := by
  unfold scB at h
  simp only [Bool.and_eq_true, Bool.not_eq_true', decide_eq_true_eq, List.all_eq_true, Bool.or_eq_true] at h
  obtain ⟨⟨⟨⟨⟨⟨h1, h2⟩, h3⟩, h4⟩, h5⟩, h6⟩, h7⟩ := h
  refine ⟨?_, h2, h3, h4, h5, fun x hx => (h6 x hx).elim (fun z => .inl (isK_eq z)) fun z => .inr (isK_eq z), fun y hy e => ?_⟩
  · split at h1
    · assumption
    · cases h1
  · have := h7 y hy
    rw [e] at this
    cases this
def enB (G : Glo) (e : En) : Bool := e.d.dfl.isEmpty && e.d.kwd.isEmpty && decide (e.d.at_ = (e.fi.name, none)) && scB e.N e.fi.ps e.d.scope && decide (e.f.ar = e.fi.ps.length) && decide (e.f.sl = e.N.length) && chkB G e.N e.d.scope e.f.body e.d.body
def BnOk (e : En) : Prop := ∀ (kV doc pm : Value) (an : Option Addr) (cdv ct : Value) (us : List Value), us.length = e.fi.ps.length → bindArgs (PySem.W.fnOf e.d.name e.d.qual e.d.params e.d.body e.d.scope .none kV doc pm an cdv ct) ⟨us, []⟩ = pure (e.fi.ps.zip us)
def gloOf (es : List En) (free : List Str) (cs : List (Str × D)) : Glo := ⟨es.map (·.fi), free, cs⟩
def faOf (es : List En) (free : List Str) : List He.Fa := es.map (fun e => .glo e.fi.name) ++ free.map .free
abbrev hkOf (n : Nat) (es : List En) (free : List Str) (cs : List (Str × D)) : PySem.W.Hook := He.hookX n (faOf es free) (es.map (·.d)) [] [] (exB cs)
theorem law_gd {es : List En} {free : List Str} {cs : List (Str × D)} {xr : XR} {P : Program} {w : World} {h : Heap} {K : PySem.W.Frag} {mg : Str → Option Value} (hx : XrOk xr) (hB : es.all (enB (gloOf es free cs)) = true) (hb : ∀ e ∈ es, BnOk e)
    (X : K.In h) (Gn : h.Ns mainGlobals mg) (c : He.SaysX (faOf es free) (es.map (·.d)) [] [] (exB cs) w h K) (base : Heap) (n : Nat) : GdM (gloOf es free cs) (FT (es.map (·.f)) n) xr n P w K mg base := by
  have cd : He.SaysD (faOf es free) (es.map (·.d)) K := c.t.d
  have hm := c.more
  unfold exB at hm
  rw [Bool.and_eq_true] at hm
  refine all_ok hx (fun i fi hi => ?_) (fun x hx => ?_) (fun p hp => ?_) n
  · obtain ⟨e, he, rfl⟩ : ∃ e, es[i]? = some e ∧ e.fi = fi := by
      have : (es.map (·.fi))[i]? = some fi := hi
      rw [List.getElem?_map] at this
      exact Option.map_eq_some_iff.mp this
    have hmem := List.mem_of_getElem? he
    have hE := List.all_eq_true.mp hB e hmem
    unfold enB at hE
    simp only [Bool.and_eq_true, decide_eq_true_eq, List.isEmpty_iff] at hE
    obtain ⟨⟨⟨⟨⟨⟨h1, h2⟩, h3⟩, h4⟩, h5⟩, h6⟩, h7⟩ := hE
    obtain ⟨fd, F⟩ := cd.defs (d := e.d) (List.mem_map.mpr ⟨e, hmem, rfl⟩)
    have hg := He.glo_ok X Gn (cd.facts (f := .glo e.fi.name) (List.mem_append_left _ (List.mem_map.mpr ⟨e, hmem, rfl⟩)))
    have ha : He.fAd K e.d.at_ = He.ga K e.fi.name := by rw [h3]; rfl
    have hd : e.d.dvs K = [] := by unfold He.DefD.dvs; rw [h1]; rfl
    rw [ha, hd] at F
    exact ⟨⟨_, fd, _, _, _, _, _, _, _, e.N, e.f, hg, F.bindsN (hb e hmem), F, scB_ok h4, by rw [List.getElem?_map, he]; rfl, h5, h6, h7⟩⟩
  · exact He.free_ok X Gn (cd.facts (f := .free x) (List.mem_append_right _ (List.mem_map.mpr ⟨x, hx, rfl⟩)))
  · have := List.all_eq_true.mp hm.2 p hp
    unfold conB at this
    split at this
    · rename_i u hu
      obtain ⟨v, h1, h2⟩ := valB_ok _ _ this
      exact ⟨u, v, PySem.W.mg_of X Gn hu, h1, h2⟩
    · cases this
def xr0 : XR := fun _ _ _ _ _ _ _ => False
theorem xr0_ok : XrOk xr0 := fun _ _ _ _ _ _ _ _ _ _ h => h
theorem reps_ints {K : PySem.W.Frag} {H : Hp} {N : Addr → Prop} : ∀ ns : List Int, Reps K H N (ns.map V.int) (ns.map D.int)
  | [] => .nil
  | n :: ns => .cons (.int n) (reps_ints ns)
/-- what the law's walk needs -/
theorem law_end {es : List En} {free : List Str} {cs : List (Str × D)} {P : Program} {w : World} {h : Heap} {mg : Str → Option Value} {fa : Addr} {i n : Nat} {e : En} (hB : es.all (enB (gloOf es free cs)) = true) (hb : ∀ e ∈ es, BnOk e)
    (hi : es[i]? = some e) (hps : e.fi.ps = [("script" : Str)]) (Y : (hkOf 4 es free cs).says w h) (Gn : h.Ns mainGlobals mg) (hmg : mg e.fi.name = some (.ref fa))
    (law : ∀ ns : List Int, ns.length ≤ 63 → ∃ S', FT (es.map (·.f)) n i [.t (.lst (ns.map .int))] [] = .ok (.t (.bl true)) S') :
    ∃ (K : PySem.W.Frag) (fd : FuncData) (sp : Sp), K.In h ∧ (∀ (s : Shared) (u : Value), BindsTo s fd ⟨[u], []⟩ [(("script" : Str), u)]) ∧
        (∀ (H : Hp) (a : Addr) (ns : List Int), ns.length ≤ 63 → Only H → SqL K H a (ns.map V.int) → sp [.ref a] H (fun v _ => v = .bl true) fun _ _ _ => False) ∧
        ∀ base : Heap, K.In base → base.Ns mainGlobals mg → FnOk P w K mg base (L2.CX P w) n fa fd [("script" : Str)] sp := by
  obtain ⟨K, KX, c⟩ := Y
  have cd : He.SaysD (faOf es free) (es.map (·.d)) K := c.t.d
  have hmem := List.mem_of_getElem? hi
  have hE := List.all_eq_true.mp hB e hmem
  unfold enB at hE
  simp only [Bool.and_eq_true, decide_eq_true_eq, List.isEmpty_iff] at hE
  obtain ⟨⟨⟨⟨⟨⟨h1, h2⟩, h3⟩, h4⟩, h5⟩, h6⟩, h7⟩ := hE
  have gd := fun base => law_gd (P := P) xr0_ok hB hb KX Gn c base n
  -- one function object for all bases
  obtain ⟨fd, F⟩ := cd.defs (d := e.d) (List.mem_map.mpr ⟨e, hmem, rfl⟩)
  have hg := He.glo_ok KX Gn (cd.facts (f := .glo e.fi.name) (List.mem_append_left _ (List.mem_map.mpr ⟨e, hmem, rfl⟩)))
  have ha : He.fAd K e.d.at_ = He.ga K e.fi.name := by rw [h3]; rfl
  have hd : e.d.dvs K = [] := by unfold He.DefD.dvs; rw [h1]; rfl
  rw [ha, hd] at F
  have e1 := hmg.symm.trans hg
  cases e1
  have b := FunD.bindsA (ps := e.fi.ps) F (hb e hmem)
  rw [hps] at b
  have hT : (es.map (·.f))[i]? = some e.f := by rw [List.getElem?_map, hi]; rfl
  refine ⟨K, fd, spOf K xr0 1 (FT (es.map (·.f)) n i), KX, fun s u => b s [u] rfl, fun H a ns hl hO hS => ⟨rfl, [], [], [.t (.lst (ns.map .int))], ⟨rfl, .nil, fun i a o e => by simp at e⟩, .cons ?_ .nil, ?_⟩, fun base hKb hNb => ?_⟩
  · rcases hS with hS | ⟨o, its, m, e1, e2, _⟩
    · exact .lst ⟨hS, fun ⟨i, e, _⟩ => by simp at e⟩ (reps_ints ns)
    · have hm := c.more
      unfold exB at hm
      rw [Bool.and_eq_true] at hm
      exact absurd e2 (noL_ok hm.1 e1)
  · obtain ⟨S', hS'⟩ := law ns hl
    rw [hS']
    intro H' v ok' f' r
    cases r
    rfl
  · cases n with
    | zero =>
      refine ⟨fun vs H Q E h => h.1, fun A outer s H args us vs Q E _ _ _ _ h => ?_⟩
      obtain ⟨_, m, S, ds, _, _, h⟩ := h
      exact h.elim
    | succ n =>
      have e2 : FT (es.map (·.f)) (n + 1) i = callF (FT (es.map (·.f)) n) e.f := by funext ds S; simp only [FT, hT]
      rw [e2]
      have := fn_ok (G := gloOf es free cs) (F := FT (es.map (·.f)) n) (P := P) (w := w) (mg := mg) (base := base) F (scB_ok h4) h5 h6 xr0_ok (law_gd (P := P) xr0_ok hB hb KX Gn c base n) h7
      rw [hps] at this
      exact this
/-- a law's walk, its defs letting out what L2.CX says -/
theorem walk_ofM {l : PySem.W.OpenLaw} {n k : Nat} {q : Program} {loose : List Str} {XP : (Str → Option Value) → Heap → Prop} {YP : World → Heap → Prop} {d : DefRec} {x : Str}
    (hn : l.most = some n) (hn2 : n ≤ sizeLine) (hdf : d.params.defaults = []) (hr : Room k callerA)
    (F : ∀ (w : World) (mg : Str → Option Value) (fa : Addr) (h : Heap), YP w h → h.Ns mainGlobals mg → mg d.name = some (.ref fa) →
      ∃ (K : PySem.W.Frag) (fd : FuncData) (sp : Sp), K.In h ∧ (∀ (s : Shared) (u : Value), BindsTo s fd ⟨[u], []⟩ [(x, u)]) ∧
        (∀ (H : Hp) (a : Addr) (ns : List Int), ns.length ≤ n → Only H → SqL K H a (ns.map V.int) → sp [.ref a] H (fun v _ => v = .bl true) fun _ _ _ => False) ∧
        ∀ base : Heap, K.In base → base.Ns mainGlobals mg → FnOk l.prog w K mg base (L2.CX l.prog w) k fa fd [x] sp) :
    PySem.W.WalkO q loose XP YP l.row.toRowW d [] (fun f vs => PySem.call f vs) := by
  refine Att.attach_call hn hdf fun w s₀ s₁ mg mb fa o pm cd doc a vs ns G Y ho hd hcd hmg hobj hints hlen hg => ?_
  obtain ⟨K, fd, sp, KX, hb, hsp, hF⟩ := F w mg fa _ Y G.T.g hmg
  exact law_call KX G.T.g G.T.b G.T.builtins G.T.nolimit hg hobj hints (Nat.le_trans hlen hn2) hr hF hb (fun H hO hS => hsp H a ns hlen hO hS) fun H e s' ⟨_, _, _, _, _, _, _, _, _, _, _, _, z⟩ => z
end M

/-! runs of the small language, loops by invariants -/
namespace M
open PySem PySem.Spec PyProof.Rows L2

theorem FT_at {T : List Fn} {i : Nat} {f : Fn} (h : T[i]? = some f) (n : Nat) (vs : List SV) (S : St') : FT T (n + 1) i vs S = callF (FT T n) f vs S := by simp only [FT, h]
theorem callF_rt {F : FS} {f : Fn} {vs : List SV} {S S' : St'} {d : D} (hl : vs.length = f.ar) (h : execB F f.body (vs.map some ++ List.replicate (f.sl - vs.length) none) S = .rt (.t d) S') (hS : S'.take S.length = S) : callF F f vs S = .ok (.t d) S := by
  unfold callF
  rw [if_pos hl, h]
  simp only [finish, hS]
/-- a for over fixed data, by what holds ahead of the items left -/
theorem forFix_run {tg : Tg} {body : Ev → St' → Out} (I : List D → Ev → St' → Prop)
    (step : ∀ d ds ρ S, I (d :: ds) ρ S → ∃ ρ' ρ2 S2, bindTg tg d ρ = some ρ' ∧ (body ρ' S = .nx ρ2 S2 ∨ body ρ' S = .ct ρ2 S2) ∧ I ds ρ2 S2) :
    ∀ {xs : List D} {ρ : Ev} {S : St'}, I xs ρ S → ∃ ρ' S', forFix tg body xs ρ S = .nx ρ' S' ∧ I [] ρ' S'
  | [], ρ, S, h => ⟨ρ, S, rfl, h⟩
  | d :: ds, ρ, S, h => by
    obtain ⟨ρ', ρ2, S2, h1, h2, h3⟩ := step d ds ρ S h
    obtain ⟨ρ3, S3, h4, h5⟩ := forFix_run I step h3
    refine ⟨ρ3, S3, ?_, h5⟩
    unfold forFix
    rw [h1]
    rcases h2 with h2 | h2 <;> simp only [h2, Out.turn_nx, Out.turn_ct, h4]
/-- a comprehension over fixed data, its parts leaving the objects alone -/
theorem lcFix_map {tg : Tg} {c : Ev → St' → R Bool} {e : Ev → St' → R SV} {ρ : Ev} {S : St'} {b : D → Bool} {v : D → D} : ∀ {xs : List D} {acc : List D},
    (∀ d ∈ xs, ∀ acc, ∃ ρ', bindTg tg d ρ = some ρ' ∧ c ρ' (S ++ [.lst acc]) = .ok (b d) (S ++ [.lst acc]) ∧ (b d = true → e ρ' (S ++ [.lst acc]) = .ok (.t (v d)) (S ++ [.lst acc]))) →
    acc.length + xs.length ≤ sizeLine → lcFix tg c e S.length xs ρ (S ++ [.lst acc]) = .ok (acc ++ (xs.filter b).map v) S
  | [], acc, _, _ => by simp [lcFix, lcEnd]
  | d :: ds, acc, h, hl => by
    obtain ⟨ρ', h1, h2, h3⟩ := h d List.mem_cons_self acc
    simp only [List.length_cons] at hl
    unfold lcFix lcTurn
    rw [h1]
    simp only [h2, R.nox_ok, R.bind_ok]
    cases hb : b d with
    | true =>
      simp only [h3 hb, R.nox_ok, R.bind_ok, lcPut, grab, if_true]
      rw [show (S ++ [O.lst acc])[S.length]? = some (.lst acc) by simp]
      have hlt : acc.length < sizeLine := by omega
      simp only [hlt, if_true, R.bind_ok]
      rw [show (S ++ [O.lst acc]).set S.length (.lst (acc ++ [v d])) = S ++ [.lst (acc ++ [v d])] by simp]
      rw [lcFix_map (fun d' hd' => h d' (List.mem_cons_of_mem _ hd')) (by simp; omega)]
      simp [List.filter_cons, hb]
    | false =>
      simp only [Bool.false_eq_true, if_false, R.bind_ok]
      rw [lcFix_map (fun d' hd' => h d' (List.mem_cons_of_mem _ hd')) (by omega)]
      simp [List.filter_cons, hb]
/-- .. over an object that stays -/
theorem lcLive_map {tg : Tg} {c : Ev → St' → R Bool} {e : Ev → St' → R SV} {ρ : Ev} {S : St'} {b : D → Bool} {v : D → D} {i : Nat} {ys : List D} (hi : S[i]? = some (.lst ys))
    (h : ∀ d ∈ ys, ∀ acc, ∃ ρ', bindTg tg d ρ = some ρ' ∧ c ρ' (S ++ [.lst acc]) = .ok (b d) (S ++ [.lst acc]) ∧ (b d = true → e ρ' (S ++ [.lst acc]) = .ok (.t (v d)) (S ++ [.lst acc]))) :
    ∀ (n j : Nat) (acc : List D), j + n = ys.length → acc.length + n ≤ sizeLine → lcLive tg c e S.length i n j ρ (S ++ [.lst acc]) = .ok (acc ++ ((ys.drop j).filter b).map v) S
  | 0, j, acc, hj, hl => by
    have hlt : i < S.length := (List.getElem?_eq_some_iff.mp hi).1
    unfold lcLive
    rw [List.getElem?_append_left hlt, hi]
    simp only
    rw [List.getElem?_eq_none (by omega), List.drop_eq_nil_of_le (by omega)]
    simp [lcEnd]
  | n + 1, j, acc, hj, hl => by
    have hlt : i < S.length := (List.getElem?_eq_some_iff.mp hi).1
    have hjl : j < ys.length := by omega
    obtain ⟨ρ', h1, h2, h3⟩ := h ys[j] (List.getElem_mem hjl) acc
    unfold lcLive
    rw [List.getElem?_append_left hlt, hi]
    simp only
    rw [List.getElem?_eq_getElem hjl]
    simp only
    unfold lcTurn
    rw [h1]
    simp only [h2, R.nox_ok, R.bind_ok]
    rw [List.drop_eq_getElem_cons hjl]
    cases hb : b ys[j] with
    | true =>
      simp only [h3 hb, R.nox_ok, R.bind_ok, lcPut, grab, if_true]
      rw [show (S ++ [O.lst acc])[S.length]? = some (.lst acc) by simp]
      have hlt : acc.length < sizeLine := by omega
      simp only [hlt, if_true, R.bind_ok]
      rw [show (S ++ [O.lst acc]).set S.length (.lst (acc ++ [v ys[j]])) = S ++ [.lst (acc ++ [v ys[j]])] by simp]
      rw [lcLive_map hi h n (j + 1) _ (by omega) (by simp; omega)]
      rw [List.filter_cons_of_pos hb, List.map_cons]
      simp only [List.append_assoc, List.cons_append, List.nil_append]
    | false =>
      simp only [Bool.false_eq_true, if_false, R.bind_ok]
      rw [lcLive_map hi h n (j + 1) _ (by omega) (by omega)]
      rw [List.filter_cons_of_neg (by simp [hb])]
theorem R.bind_cong {α β : Type} {r r' : R α} {k : α → St' → R β} (h : r = r') : r.bind k = r'.bind k := by rw [h]
theorem Out.of_cong {α : Type} {ρ : Ev} {r r' : R α} {k : α → St' → Out} (h : r = r') : Out.of ρ r k = Out.of ρ r' k := by rw [h]
theorem Out.seq_cong {r r' : Out} {k : Ev → St' → Out} (h : r = r') : r.seq k = r'.seq k := by rw [h]
theorem Out.turn_cong {r r' : Out} {k : Ev → St' → Out} (h : r = r') : r.turn k = r'.turn k := by rw [h]
theorem optbind_cong {α β : Type} {r r' : Option α} {k : α → Option β} (h : r = r') : r.bind k = r'.bind k := by rw [h]
theorem st_get {S : St'} {o : O} : (S ++ [o])[List.length S]? = some o := by simp
theorem st_set {S : St'} {o o' : O} : (S ++ [o]).set (List.length S) o' = S ++ [o'] := by simp
theorem st_get2 {S : St'} {o u : O} : ((S ++ [o]) ++ [u])[List.length S]? = some o := by simp
theorem st_set2 {S : St'} {o u o' : O} : ((S ++ [o]) ++ [u]).set (List.length S) o' = (S ++ [o']) ++ [u] := by simp
theorem szl {n : Nat} : (n ≤ sizeLine) = (n ≤ 16777216) := by rw [show sizeLine = 16777216 by decide +kernel]
theorem execB_cons {F : FS} {s : MS} {ss : List MS} {ρ ρ1 : Ev} {S S1 : St'} {o : Out} (h : execS F s ρ S = .nx ρ1 S1) (h2 : execB F ss ρ1 S1 = o) : execB F (s :: ss) ρ S = o := by rw [execB, h]; exact h2
theorem execB_rt {F : FS} {s : MS} {ss : List MS} {ρ : Ev} {S S1 : St'} {v : SV} (h : execS F s ρ S = .rt v S1) : execB F (s :: ss) ρ S = .rt v S1 := by rw [execB, h]; rfl
end M

/-! what a run comes to, by what must hold behind it -/
namespace M
open PySem PySem.Spec PyProof.Rows L2

abbrev EX := Nat → List D → St' → Prop
def RP {α : Type} (r : R α) (P : α → St' → Prop) (E : EX) : Prop := match r with
  | .ok a S => P a S
  | .exc c p S => E c p S
  | .bad => False
structure Po where
  rt : SV → St' → Prop
  ex : Nat → List D → Ev → St' → Prop := fun _ _ _ _ => False
abbrev NX := Ev → St' → Prop
def noN : NX := fun _ _ => False
def OP (o : Out) (nx bk ct : NX) (P : Po) : Prop := match o with
  | .nx ρ S => nx ρ S
  | .rt v S => P.rt v S
  | .bk ρ S => bk ρ S
  | .ct ρ S => ct ρ S
  | .exc c p ρ S => P.ex c p ρ S
  | .bad => False
def noE : EX := fun _ _ _ => False
section
variable {α β : Type} {r : R α} {k : α → St' → R β} {P P' : α → St' → Prop} {Q : β → St' → Prop} {E E' : EX}
theorem RP.mono (h : RP r P E) (hp : ∀ a S, P a S → P' a S) (he : ∀ c p S, E c p S → E' c p S) : RP r P' E' := by
  cases r with
  | ok a S => exact hp a S h
  | exc c p S => exact he c p S h
  | bad => exact h
theorem RP.imp (h : RP r P E) (hp : ∀ a S, P a S → P' a S) : RP r P' E := h.mono hp fun _ _ _ h => h
theorem RP.of_no (h : RP r P noE) (hp : ∀ a S, P a S → P' a S) : RP r P' E := h.mono hp fun _ _ _ h => h.elim
theorem RP.eq {a : α} {S : St'} (h : r = .ok a S) (hp : P a S) : RP r P E := by rw [h]; exact hp
theorem RP.get (h : RP r P noE) : ∃ a S, r = .ok a S ∧ P a S := by
  cases r with
  | ok a S => exact ⟨a, S, rfl, h⟩
  | exc c p S => exact h.elim
  | bad => exact h.elim
theorem RP.bind (h : RP r (fun a S => RP (k a S) Q E) E) : RP (r.bind k) Q E := by
  cases r with
  | ok a S => exact h
  | exc c p S => exact h
  | bad => exact h
theorem RP.opt {o : Option α} {S : St'} (h : ∃ a, o = some a ∧ P a S) : RP (R.opt o S) P E := by
  obtain ⟨a, rfl, h⟩ := h
  exact h
theorem OP.of {ρ : Ev} {k : α → St' → Out} {nx bk ct : NX} {P : Po} (h : RP r (fun a S => OP (k a S) nx bk ct P) (fun c p S => P.ex c p ρ S)) : OP (Out.of ρ r k) nx bk ct P := by
  cases r with
  | ok a S => exact h
  | exc c p S => exact h
  | bad => exact h
theorem OP.seq {o : Out} {k : Ev → St' → Out} {nx bk ct : NX} {P : Po} (h : OP o (fun ρ S => OP (k ρ S) nx bk ct P) bk ct P) : OP (o.seq k) nx bk ct P := by
  cases o <;> exact h
theorem OP.imp {o : Out} {nx bk ct nx' bk' ct' : NX} {P P' : Po} (h : OP o nx bk ct P) (h1 : ∀ ρ S, nx ρ S → nx' ρ S) (h2 : ∀ v S, P.rt v S → P'.rt v S) (h3 : ∀ ρ S, bk ρ S → bk' ρ S) (h4 : ∀ ρ S, ct ρ S → ct' ρ S) (h5 : ∀ c p ρ S, P.ex c p ρ S → P'.ex c p ρ S) : OP o nx' bk' ct' P' := by
  cases o with
  | nx ρ S => exact h1 _ _ h
  | rt ρ S => exact h2 _ _ h
  | bk ρ S => exact h3 _ _ h
  | ct ρ S => exact h4 _ _ h
  | exc c p ρ S => exact h5 _ _ _ _ h
  | bad => exact h
end
section
variable {F : FS} {ρ : Ev} {S : St'} {a b c e : ME} {es : List ME} {P : SV → St' → Prop} {E : EX}
theorem rp_var {i : Nat} {v : SV} (h : ρ[i]? = some (some v)) (hp : P v S) : RP (evalE F (.var i) ρ S) P E := by rw [evalE, h]; exact hp
theorem rp_lit {d : D} (hp : P (.t d) S) : RP (evalE F (.lit d) ρ S) P E := by rw [evalE]; exact hp
theorem rp_glb {x : Str} {d : D} (hp : P (.t d) S) : RP (evalE F (.glb x d) ρ S) P E := by rw [evalE]; exact hp
theorem rp_nil {P : List SV → St' → Prop} (hp : P [] S) : RP (evalEs F [] ρ S) P E := by rw [evalEs]; exact hp
theorem rp_cons {P : List SV → St' → Prop} (hp : RP (evalE F e ρ S) (fun v S1 => RP (evalEs F es ρ S1) (fun vs S2 => P (v :: vs) S2) E) E) : RP (evalEs F (e :: es) ρ S) P E := by
  rw [evalEs]
  exact RP.bind (hp.imp fun v S1 h => RP.bind (h.imp fun vs S2 h => h))
theorem rp_tup (hp : RP (evalEs F es ρ S) (fun vs S1 => ∃ ds S2, grabs S1 vs = some (ds, S2) ∧ ds.length ≤ sizeLine ∧ P (.t (.tup ds)) S2) E) : RP (evalE F (.tup es) ρ S) P E := by
  rw [evalE]
  refine RP.bind (hp.imp fun vs S1 ⟨ds, S2, h1, h2, h3⟩ => ?_)
  rw [h1]
  simp only [h2, if_true]
  exact h3
theorem rp_lst (hp : RP (evalEs F es ρ S) (fun vs S1 => ∃ ds S2, grabs S1 vs = some (ds, S2) ∧ ds.length ≤ sizeLine ∧ P (.t (.lst ds)) S2) E) : RP (evalE F (.lst es) ρ S) P E := by
  rw [evalE]
  refine RP.bind (hp.imp fun vs S1 ⟨ds, S2, h1, h2, h3⟩ => ?_)
  rw [h1]
  simp only [h2, if_true]
  exact h3
def bin2 (o : Bn) (S : St') (x y : SV) : Option D := (peek S x).bind fun d => (peek S y).bind fun e => binD o d e
theorem rp_bin {o : Bn} (hp : RP (evalE F a ρ S) (fun x S1 => RP (evalE F b ρ S1) (fun y S2 => ∃ r, bin2 o S2 x y = some r ∧ P (.t r) S2) E) E) : RP (evalE F (.bin o a b) ρ S) P E := by
  rw [evalE]
  refine RP.bind (hp.imp fun x S1 h => RP.bind (h.imp fun y S2 ⟨r, h1, h2⟩ => RP.opt ⟨.t r, ?_, h2⟩))
  unfold bin2 at h1
  obtain ⟨d, e1, h1⟩ := Option.bind_eq_some_iff.mp h1
  obtain ⟨e, e2, h1⟩ := Option.bind_eq_some_iff.mp h1
  rw [e1, Option.bind_some, e2, Option.bind_some, h1]; rfl
theorem rp_neg (hp : RP (evalE F a ρ S) (fun x S1 => ∃ i, x = .t (.int i) ∧ P (.t (.int (-i))) S1) E) : RP (evalE F (.neg a) ρ S) P E := by
  rw [evalE]
  refine RP.bind (hp.imp fun x S1 ⟨i, h, hp⟩ => ?_)
  subst h
  exact hp
def cmp2' (o : Cm) (S : St') (x y : SV) : Option Bool := (peek S x).bind fun d => (peek S y).bind fun e => cmpD o d e
theorem rp_cmp {o : Cm} (hp : RP (evalE F a ρ S) (fun x S1 => RP (evalE F b ρ S1) (fun y S2 => ∃ r, cmp2' o S2 x y = some r ∧ P (.t (.bl r)) S2) E) E) : RP (evalE F (.cmp o a b) ρ S) P E := by
  rw [evalE]
  refine RP.bind (hp.imp fun x S1 h => RP.bind (h.imp fun y S2 ⟨r, h1, h2⟩ => RP.opt ⟨.t (.bl r), ?_, h2⟩))
  unfold cmp2' at h1
  obtain ⟨d, e1, h1⟩ := Option.bind_eq_some_iff.mp h1
  obtain ⟨e, e2, h1⟩ := Option.bind_eq_some_iff.mp h1
  rw [e1, Option.bind_some, e2, Option.bind_some, h1]; rfl
theorem rp_cmp2 {o p : Cm} (hp : RP (evalE F a ρ S) (fun x S1 => RP (evalE F b ρ S1) (fun y S2 => ∃ r, cmp2' o S2 x y = some r ∧ (r = true → RP (evalE F c ρ S2) (fun z S3 => ∃ r, cmp2' p S3 y z = some r ∧ P (.t (.bl r)) S3) E) ∧ (r = false → P (.t (.bl false)) S2)) E) E) : RP (evalE F (.cmp2 o p a b c) ρ S) P E := by
  rw [evalE]
  refine RP.bind (hp.imp fun x S1 h => RP.bind (h.imp fun y S2 ⟨r, h1, h2, h3⟩ => ?_))
  unfold cmp2' at h1
  obtain ⟨d, e1, h1⟩ := Option.bind_eq_some_iff.mp h1
  obtain ⟨e, e2, h1⟩ := Option.bind_eq_some_iff.mp h1
  rw [e1, Option.bind_some, e2, Option.bind_some, h1, R.opt_some, R.bind_ok]
  cases r with
  | false => exact h3 rfl
  | true =>
    refine RP.bind ((h2 rfl).imp fun z S3 ⟨r, h1, h2⟩ => RP.opt ⟨.t (.bl r), ?_, h2⟩)
    unfold cmp2' at h1
    obtain ⟨d, e1, h1⟩ := Option.bind_eq_some_iff.mp h1
    obtain ⟨e, e2, h1⟩ := Option.bind_eq_some_iff.mp h1
    rw [e1, Option.bind_some, e2, Option.bind_some, h1]; rfl
def truth (S : St') (x : SV) : Option Bool := (peek S x).bind truD
theorem rp_tru {P : Bool → St' → Prop} {r : R SV} (hp : RP r (fun x S1 => ∃ k, truth S1 x = some k ∧ P k S1) E) : RP (tru r) P E := by
  unfold tru
  exact RP.bind (hp.imp fun x S1 ⟨k, h1, h2⟩ => RP.opt ⟨k, h1, h2⟩)
theorem rp_and (hp : RP (evalE F a ρ S) (fun x S1 => ∃ k, truth S1 x = some k ∧ (k = true → RP (evalE F b ρ S1) P E) ∧ (k = false → P x S1)) E) : RP (evalE F (.and a b) ρ S) P E := by
  rw [evalE]
  refine RP.bind (hp.imp fun x S1 ⟨k, h1, h2, h3⟩ => ?_)
  unfold truth at h1
  rw [h1, R.opt_some, R.bind_ok]
  cases k with
  | true => exact h2 rfl
  | false => exact h3 rfl
theorem rp_or (hp : RP (evalE F a ρ S) (fun x S1 => ∃ k, truth S1 x = some k ∧ (k = true → P x S1) ∧ (k = false → RP (evalE F b ρ S1) P E)) E) : RP (evalE F (.or a b) ρ S) P E := by
  rw [evalE]
  refine RP.bind (hp.imp fun x S1 ⟨k, h1, h2, h3⟩ => ?_)
  unfold truth at h1
  rw [h1, R.opt_some, R.bind_ok]
  cases k with
  | true => exact h2 rfl
  | false => exact h3 rfl
theorem rp_not (hp : RP (evalE F a ρ S) (fun x S1 => ∃ k, truth S1 x = some k ∧ P (.t (.bl (!k))) S1) E) : RP (evalE F (.not a) ρ S) P E := by
  rw [evalE]
  exact RP.bind (rp_tru (hp.imp fun x S1 ⟨k, h1, h2⟩ => ⟨k, h1, h2⟩))
theorem rp_ife (hp : RP (evalE F c ρ S) (fun x S1 => ∃ k, truth S1 x = some k ∧ (k = true → RP (evalE F a ρ S1) P E) ∧ (k = false → RP (evalE F b ρ S1) P E)) E) : RP (evalE F (.ife c a b) ρ S) P E := by
  rw [evalE]
  refine RP.bind (rp_tru (hp.imp fun x S1 ⟨k, h1, h2, h3⟩ => ⟨k, h1, ?_⟩))
  cases k with
  | true => exact h2 rfl
  | false => exact h3 rfl
def idx2 (S : St') (x y : SV) : Option D := (peek S x).bind fun d => (peek S y).bind fun e => idxD d e
theorem rp_idx {i : ME} (hp : RP (evalE F a ρ S) (fun x S1 => RP (evalE F i ρ S1) (fun y S2 => ∃ r, idx2 S2 x y = some r ∧ P (.t r) S2) E) E) : RP (evalE F (.idx a i) ρ S) P E := by
  rw [evalE]
  refine RP.bind (hp.imp fun x S1 h => RP.bind (h.imp fun y S2 ⟨r, h1, h2⟩ => RP.opt ⟨.t r, ?_, h2⟩))
  unfold idx2 at h1
  obtain ⟨d, e1, h1⟩ := Option.bind_eq_some_iff.mp h1
  obtain ⟨e, e2, h1⟩ := Option.bind_eq_some_iff.mp h1
  rw [e1, Option.bind_some, e2, Option.bind_some, h1]; rfl
theorem rp_p0 {P : Option Int → St' → Prop} (hp : P none S) : RP (evalP F [] ρ S) P E := by rw [evalP]; exact hp
theorem rp_p1 {P : Option Int → St' → Prop} (hp : RP (evalE F e ρ S) (fun v S1 => ∃ i, v = .t (.int i) ∧ P (some i) S1) E) : RP (evalP F (e :: es) ρ S) P E := by
  rw [evalP]
  refine RP.bind (hp.imp fun x S1 ⟨i, h, hp⟩ => ?_)
  subst h
  exact hp
def slc2 (S : St') (x : SV) (l h : Option Int) : Option D := (peek S x).bind fun d => slcD d l h
theorem rp_slc {lo hi : List ME} (hp : RP (evalE F a ρ S) (fun x S1 => RP (evalP F lo ρ S1) (fun l S2 => RP (evalP F hi ρ S2) (fun h S3 => ∃ r, slc2 S3 x l h = some r ∧ P (.t r) S3) E) E) E) : RP (evalE F (.slc a lo hi) ρ S) P E := by
  rw [evalE]
  refine RP.bind (hp.imp fun x S1 h => RP.bind (h.imp fun l S2 h => RP.bind (h.imp fun h S3 ⟨r, h1, h2⟩ => RP.opt ⟨.t r, ?_, h2⟩)))
  unfold slc2 at h1
  obtain ⟨d, e1, h1⟩ := Option.bind_eq_some_iff.mp h1
  rw [e1, Option.bind_some, h1]; rfl
theorem rp_call {f : Nat} (hp : RP (evalEs F es ρ S) (fun vs S1 => RP (F f vs S1) P E) E) : RP (evalE F (.call f es) ρ S) P E := by
  rw [evalE]
  exact RP.bind hp
def bi2 (b : Bi) (S : St') (vs : List SV) : Option D := (peeks S vs).bind (biD b)
theorem rp_bi {b : Bi} (hp : RP (evalEs F es ρ S) (fun vs S1 => ∃ r, bi2 b S1 vs = some r ∧ P (.t r) S1) E) : RP (evalE F (.bi b es) ρ S) P E := by
  rw [evalE]
  refine RP.bind (hp.imp fun vs S1 ⟨r, h1, h2⟩ => RP.opt ⟨.t r, ?_, h2⟩)
  unfold bi2 at h1
  obtain ⟨d, e1, h1⟩ := Option.bind_eq_some_iff.mp h1
  rw [e1, Option.bind_some, h1]; rfl
theorem rp_isi {t : Ty} (hp : RP (evalE F a ρ S) (fun x S1 => ∃ d, peek S1 x = some d ∧ P (.t (.bl (isiD d t))) S1) E) : RP (evalE F (.isi a t) ρ S) P E := by
  rw [evalE]
  exact RP.bind (hp.imp fun x S1 ⟨d, h1, h2⟩ => RP.opt ⟨_, by rw [h1]; rfl, h2⟩)
theorem rp_isit {ts : List Ty} (hp : RP (evalE F a ρ S) (fun x S1 => ∃ d, peek S1 x = some d ∧ P (.t (.bl (ts.any fun t => isiD d t))) S1) E) : RP (evalE F (.isit a ts) ρ S) P E := by
  rw [evalE]
  exact RP.bind (hp.imp fun x S1 ⟨d, h1, h2⟩ => RP.opt ⟨_, by rw [h1]; rfl, h2⟩)
def mth2 (m : Mt) (S : St') (x : SV) (vs : List SV) : Option D := (peek S x).bind fun d => (peeks S vs).bind fun ds => mthD m d ds
theorem rp_mth {m : Mt} (hp : RP (evalE F a ρ S) (fun x S1 => ((peek S1 x).map (mtOk m)).getD false = true ∧ RP (evalEs F es ρ S1) (fun vs S2 => ∃ r, mth2 m S2 x vs = some r ∧ P (.t r) S2) E) E) : RP (evalE F (.mth m a es) ρ S) P E := by
  rw [evalE]
  refine RP.bind (hp.imp fun x S1 ⟨h0, h⟩ => ?_)
  rw [if_neg (by rw [h0]; simp)]
  refine RP.bind (h.imp fun vs S2 ⟨r, h1, h2⟩ => RP.opt ⟨.t r, ?_, h2⟩)
  unfold mth2 at h1
  obtain ⟨d, e1, h1⟩ := Option.bind_eq_some_iff.mp h1
  obtain ⟨e, e2, h1⟩ := Option.bind_eq_some_iff.mp h1
  rw [e1, Option.bind_some, e2, Option.bind_some, h1]; rfl
theorem rp_of {P : Src → St' → Prop} (hp : RP (evalE F e ρ S) (fun v S1 => ∃ s, srcOf S1 v = some s ∧ P s S1) E) : RP (evalI F (.of e) ρ S) P E := by
  rw [evalI]
  exact RP.bind (hp.imp fun v S1 ⟨s, h1, h2⟩ => RP.opt ⟨s, h1, h2⟩)
theorem rp_r1 {P : Src → St' → Prop} (hp : RP (evalE F e ρ S) (fun v S1 => ∃ n, v = .t (.int n) ∧ rngOk n = true ∧ P (.fix (rangeD 0 n)) S1) E) : RP (evalI F (.range1 e) ρ S) P E := by
  rw [evalI]
  refine RP.bind (hp.imp fun v S1 ⟨n, h1, h2, h3⟩ => ?_)
  subst h1
  simp only [h2, if_true]
  exact h3
theorem rp_r2 {P : Src → St' → Prop} (hp : RP (evalE F a ρ S) (fun v S1 => RP (evalE F b ρ S1) (fun u S2 => ∃ i j, v = .t (.int i) ∧ u = .t (.int j) ∧ (rngOk i && rngOk j) = true ∧ P (.fix (rangeD i j)) S2) E) E) : RP (evalI F (.range2 a b) ρ S) P E := by
  rw [evalI]
  refine RP.bind (hp.imp fun v S1 h => RP.bind (h.imp fun u S2 ⟨i, j, h1, h2, h3, h4⟩ => ?_))
  subst h1; subst h2
  simp only [h3, if_true]
  exact h4
def sqD : SV → Option (List D)
  | .t (.lst xs) => some xs
  | .t (.tup xs) => some xs
  | _ => none
theorem rp_enum {P : Src → St' → Prop} (hp : RP (evalE F e ρ S) (fun v S1 => ∃ xs, sqD v = some xs ∧ P (.fix (enumD xs)) S1) E) : RP (evalI F (.enum e) ρ S) P E := by
  rw [evalI]
  refine RP.bind (hp.imp fun v S1 ⟨xs, h1, h2⟩ => ?_)
  unfold sqD at h1
  split at h1 <;> cases h1 <;> exact h2
theorem rp_zip {P : Src → St' → Prop} (hp : RP (evalE F a ρ S) (fun v S1 => RP (evalE F b ρ S1) (fun u S2 => ∃ xs ys, ((v = .t (.lst xs) ∧ u = .t (.lst ys)) ∨ (v = .t (.tup xs) ∧ u = .t (.tup ys))) ∧ P (.fix (zipD xs ys)) S2) E) E) : RP (evalI F (.zip a b) ρ S) P E := by
  rw [evalI]
  refine RP.bind (hp.imp fun v S1 h => RP.bind (h.imp fun u S2 ⟨xs, ys, h1, h2⟩ => ?_))
  rcases h1 with ⟨rfl, rfl⟩ | ⟨rfl, rfl⟩ <;> exact h2
/-- a comprehension: what its source is, then what its list is -/
theorem rp_lc {tg : Tg} {it : IT} {cs : List ME} (hp : RP (evalI F it ρ S) (fun src S1 => RP (lcSrc tg (tests (evalCs F cs)) (evalE F e) src ρ S1) (fun xs S2 => P (.t (.lst xs)) S2) E) E) : RP (evalE F (.lc tg it cs e) ρ S) P E := by
  rw [evalE]
  exact RP.bind (hp.imp fun src S1 h => RP.bind (h.imp fun xs S2 h => h))
theorem rp_lcL {tg : Tg} {it : IT} {cs : List ME} {P : List D → St' → Prop} (hp : RP (evalI F it ρ S) (fun src S1 => RP (lcSrc tg (tests (evalCs F cs)) (evalE F e) src ρ S1) P E) E) : RP (evalL F (.lc tg it cs e) ρ S) P E := by
  rw [evalL]
  exact RP.bind hp
theorem rp_lstL {P : List D → St' → Prop} (hp : RP (evalEs F es ρ S) (fun vs S1 => ∃ ds S2, grabs S1 vs = some (ds, S2) ∧ ds.length ≤ sizeLine ∧ P ds S2) E) : RP (evalL F (.lst es) ρ S) P E := by
  rw [evalL]
  refine RP.bind (hp.imp fun vs S1 ⟨ds, S2, h1, h2, h3⟩ => ?_)
  rw [h1]
  simp only [h2, if_true]
  exact h3
theorem rp_catL {P : List D → St' → Prop} (hp : RP (evalE F a ρ S) (fun x S1 => RP (evalE F b ρ S1) (fun y S2 => ∃ xs ys, peek S2 x = some (.lst xs) ∧ peek S2 y = some (.lst ys) ∧ xs.length + ys.length ≤ sizeLine ∧ P (xs ++ ys) S2) E) E) : RP (evalL F (.bin .add a b) ρ S) P E := by
  rw [evalL]
  refine RP.bind (hp.imp fun x S1 h => RP.bind (h.imp fun y S2 ⟨xs, ys, h1, h2, h3, h4⟩ => RP.opt ⟨xs ++ ys, ?_, h4⟩))
  rw [h1, h2]
  simp [h3]
theorem rp_listL {P : List D → St' → Prop} (hp : RP (evalE F a ρ S) (fun x S1 => ∃ xs, (peek S1 x = some (.lst xs) ∨ peek S1 x = some (.tup xs)) ∧ P xs S1) E) : RP (evalL F (.bi .list [a]) ρ S) P E := by
  rw [evalL]
  refine RP.bind (hp.imp fun x S1 ⟨xs, h1, h2⟩ => RP.opt ⟨xs, ?_, h2⟩)
  rcases h1 with h1 | h1 <;> rw [h1] <;> rfl
end
section
variable {F : FS} {ρ : Ev} {S : St'} {a b c e : ME} {P : Po} {nx bk ct : NX} {s : MS} {ss ss' : List MS}
theorem op_nil (h : nx ρ S) : OP (execB F [] ρ S) nx bk ct P := by rw [execB]; exact h
theorem op_cons (h : OP (execS F s ρ S) (fun ρ1 S1 => OP (execB F ss ρ1 S1) nx bk ct P) bk ct P) : OP (execB F (s :: ss) ρ S) nx bk ct P := by
  rw [execB]
  exact OP.seq h
theorem op_norm {ρ' : Ev} (h : ρ = ρ') (hp : OP (execB F ss ρ' S) nx bk ct P) : OP (execB F ss ρ S) nx bk ct P := by rw [h]; exact hp
theorem op_doc (h : nx ρ S) : OP (execS F .doc ρ S) nx bk ct P := by rw [execS]; exact h
theorem op_pass (h : nx ρ S) : OP (execS F .pass ρ S) nx bk ct P := by rw [execS]; exact h
theorem op_asg {i : Nat} (h : RP (evalE F e ρ S) (fun v S1 => nx (ρ.set i (some v)) S1) fun c p S1 => P.ex c p ρ S1) : OP (execS F (.asg (.v i) e) ρ S) nx bk ct P := by
  rw [execS]
  exact OP.of (h.imp fun v S1 h => h)
theorem op_tp {is : List Nat} (h : RP (evalE F e ρ S) (fun v S1 => ∃ ds ρ', v = .t (.tup ds) ∧ setTg is ds ρ = some ρ' ∧ nx ρ' S1) fun c p S1 => P.ex c p ρ S1) : OP (execS F (.asg (.tp is) e) ρ S) nx bk ct P := by
  rw [execS]
  refine OP.of (h.imp fun v S1 ⟨ds, ρ', h1, h2, h3⟩ => ?_)
  subst h1
  unfold tpO
  simp only [h2]
  exact h3
theorem op_par {i j : Nat} (h : RP (evalE F a ρ S) (fun v S1 => RP (evalE F b ρ S1) (fun u S2 => nx ((ρ.set i (some v)).set j (some u)) S2) fun c p S1 => P.ex c p ρ S1) fun c p S1 => P.ex c p ρ S1) : OP (execS F (.par i j a b) ρ S) nx bk ct P := by
  rw [execS]
  exact OP.of (h.imp fun v S1 h => OP.of (h.imp fun u S2 h => h))
theorem op_new {i : Nat} (h : RP (evalL F e ρ S) (fun xs S1 => nx (ρ.set i (some (.o S1.length))) (S1 ++ [.lst xs])) fun c p S1 => P.ex c p ρ S1) : OP (execS F (.new i e) ρ S) nx bk ct P := by
  rw [execS]
  exact OP.of (h.imp fun v S1 h => h)
theorem op_aug {i : Nat} {o : Bn} {x : Int} (hx : ρ[i]? = some (some (.t (.int x)))) (ho : o ≠ .pow) (h : RP (evalE F e ρ S) (fun v S1 => ∃ y z, v = .t (.int y) ∧ binD o (.int x) (.int y) = some z ∧ nx (ρ.set i (some (.t z))) S1) fun c p S1 => P.ex c p ρ S1) : OP (execS F (.aug i o e) ρ S) nx bk ct P := by
  rw [execS, hx]
  refine OP.of (h.imp fun v S1 ⟨y, z, h1, h2, h3⟩ => ?_)
  subst h1
  unfold augO
  simp only [if_neg ho, h2]
  exact h3
theorem op_app {i k : Nat} {xs0 : List D} (hx : ρ[i]? = some (some (.o k))) (hS : S[k]? = some (.lst xs0)) (h : RP (evalE F e ρ S) (fun v S1 => ∃ d S2 xs S3, grab S1 v = some (d, S2) ∧ S2[k]? = some (.lst xs) ∧ xs.length < sizeLine ∧ S2.set k (.lst (xs ++ [d])) = S3 ∧ nx ρ S3) fun c p S1 => P.ex c p ρ S1) : OP (execS F (.app i e) ρ S) nx bk ct P := by
  rw [execS, hx]
  simp only [hS]
  refine OP.of (h.imp fun v S1 ⟨d, S2, xs, S3, h1, h2, h3, h5, h4⟩ => ?_)
  unfold appO
  simp only [h1, h2, h3, if_true]
  rw [h5]
  exact h4
theorem op_seti {i n : Nat} {kk : ME} (hx : ρ[i]? = some (some (.o n))) (h : RP (evalE F e ρ S) (fun v S1 => ∃ d S2, grab S1 v = some (d, S2) ∧ RP (evalE F kk ρ S2) (fun kv S3 => ∃ z xs j S4, kv = .t (.int z) ∧ S3[n]? = some (.lst xs) ∧ ixN xs.length z = some j ∧ S3.set n (.lst (xs.set j d)) = S4 ∧ nx ρ S4) fun c p S1 => P.ex c p ρ S1) fun c p S1 => P.ex c p ρ S1) : OP (execS F (.seti i kk e) ρ S) nx bk ct P := by
  rw [execS]
  refine OP.of (h.imp fun v S1 ⟨d, S2, h1, h2⟩ => ?_)
  simp only [h1, hx]
  refine OP.of (h2.imp fun kv S3 ⟨z, xs, j, S4, e1, e2, e3, e5, e4⟩ => ?_)
  subst e1
  unfold setO
  simp only [e2, e3]
  rw [e5]
  exact e4
theorem op_expr (h : RP (evalE F e ρ S) (fun v S1 => nx ρ S1) fun c p S1 => P.ex c p ρ S1) : OP (execS F (.expr e) ρ S) nx bk ct P := by
  rw [execS]
  exact OP.of (h.imp fun v S1 h => h)
theorem op_ret (h : RP (evalE F e ρ S) (fun v S1 => P.rt v S1) fun c p S1 => P.ex c p ρ S1) : OP (execS F (.ret e) ρ S) nx bk ct P := by
  rw [execS]
  exact OP.of (h.imp fun v S1 h => h)
theorem op_retN (h : P.rt (.t .non) S) : OP (execS F .retN ρ S) nx bk ct P := by rw [execS]; exact h
theorem op_ife (h : RP (evalE F c ρ S) (fun x S1 => ∃ k, truth S1 x = some k ∧ (k = true → OP (execB F ss ρ S1) nx bk ct P) ∧ (k = false → OP (execB F ss' ρ S1) nx bk ct P)) fun c p S1 => P.ex c p ρ S1) : OP (execS F (.ife c ss ss') ρ S) nx bk ct P := by
  rw [execS]
  refine OP.of (rp_tru (h.imp fun x S1 ⟨k, h1, h2, h3⟩ => ⟨k, h1, ?_⟩))
  cases k with
  | true => exact h2 rfl
  | false => exact h3 rfl
theorem op_for {tg : Tg} {it : IT} (h : RP (evalI F it ρ S) (fun src S1 => OP (forSrc tg (execB F ss) src ρ S1) nx bk ct P) fun c p S1 => P.ex c p ρ S1) : OP (execS F (.for_ tg it ss) ρ S) nx bk ct P := by
  rw [execS]
  exact OP.of (h.imp fun v S1 h => h)
/-- a for over fixed data, by what holds ahead of the items left -/
theorem op_fix {tg : Tg} {body : Ev → St' → Out} {xs : List D} (I : List D → Ev → St' → Prop) (h0 : I xs ρ S)
    (step : ∀ d ds ρ S, I (d :: ds) ρ S → ∃ ρ', bindTg tg d ρ = some ρ' ∧ OP (body ρ' S) (fun ρ2 S2 => I ds ρ2 S2) noN (fun ρ2 S2 => I ds ρ2 S2) P)
    (h1 : ∀ ρ S, I [] ρ S → nx ρ S) : OP (forSrc tg body (.fix xs) ρ S) nx bk ct P := by
  unfold forSrc
  induction xs generalizing ρ S with
  | nil => exact h1 _ _ h0
  | cons d ds ih =>
    obtain ⟨ρ', e1, h2⟩ := step d ds ρ S h0
    simp only [forFix, e1]
    revert h2
    cases body ρ' S with
    | nx ρ2 S2 => exact fun h2 => ih h2
    | ct ρ2 S2 => exact fun h2 => ih h2
    | bk ρ2 S2 => exact fun h2 => h2.elim
    | rt v S2 => exact fun h2 => h2
    | exc c p ρ2 S2 => exact fun h2 => h2
    | bad => exact fun h2 => h2
/-- .. over an object that stays as it is -/
theorem op_live {tg : Tg} {body : Ev → St' → Out} {k : Nat} {xs : List D} (I : List D → Ev → St' → Prop) (hS : S[k]? = some (.lst xs)) (h0 : I xs ρ S) (hI : ∀ ds ρ S, I ds ρ S → S[k]? = some (.lst xs))
    (step : ∀ d ds ρ S, I (d :: ds) ρ S → ∃ ρ', bindTg tg d ρ = some ρ' ∧ OP (body ρ' S) (fun ρ2 S2 => I ds ρ2 S2) noN (fun ρ2 S2 => I ds ρ2 S2) P)
    (h1 : ∀ ρ S, I [] ρ S → nx ρ S) : OP (forSrc tg body (.live k) ρ S) nx bk ct P := by
  have key : ∀ (n j : Nat) (ρ : Ev) (S : St'), j + n = xs.length → I (xs.drop j) ρ S → OP (forLive tg body k n j ρ S) nx bk ct P := by
    intro n
    induction n with
    | zero =>
      intro j ρ S hj h
      unfold forLive
      rw [hI _ _ _ h]
      simp only
      rw [List.getElem?_eq_none (by omega)]
      rw [List.drop_eq_nil_of_le (by omega)] at h
      exact h1 _ _ h
    | succ n ih =>
      intro j ρ S hj h
      have hjl : j < xs.length := by omega
      unfold forLive
      rw [hI _ _ _ h]
      simp only
      rw [List.getElem?_eq_getElem hjl]
      rw [List.drop_eq_getElem_cons hjl] at h
      obtain ⟨ρ', e1, h2⟩ := step _ _ ρ S h
      simp only [e1]
      revert h2
      cases body ρ' S with
      | nx ρ2 S2 => exact fun h2 => ih (j + 1) _ _ (by omega) h2
      | ct ρ2 S2 => exact fun h2 => ih (j + 1) _ _ (by omega) h2
      | bk ρ2 S2 => exact fun h2 => h2.elim
      | rt v S2 => exact fun h2 => h2
      | exc c p ρ2 S2 => exact fun h2 => h2
      | bad => exact fun h2 => h2
  unfold forSrc
  simp only [hS]
  exact key _ 0 ρ S (by omega) h0
end
/-- a comprehension over fixed data whose parts leave the objects alone -/
theorem rp_lcfix {tg : Tg} {c : Ev → St' → R Bool} {e : Ev → St' → R SV} {ρ : Ev} {S : St'} {P : List D → St' → Prop} {E : EX} {xs : List D} (b : D → Bool) (v : D → D) (hl : xs.length ≤ sizeLine)
    (h : ∀ d ∈ xs, ∀ acc, ∃ ρ', bindTg tg d ρ = some ρ' ∧ RP (c ρ' (S ++ [.lst acc])) (fun k S1 => k = b d ∧ S1 = S ++ [.lst acc] ∧ (k = true → RP (e ρ' (S ++ [.lst acc])) (fun x S2 => x = .t (v d) ∧ S2 = S ++ [.lst acc]) noE)) noE)
    (hp : P ((xs.filter b).map v) S) : RP (lcSrc tg c e (.fix xs) ρ S) P E := by
  unfold lcSrc
  refine RP.eq (lcFix_map (b := b) (v := v) (acc := []) (fun d hd acc => ?_) (by simpa using hl)) (by simpa using hp)
  obtain ⟨ρ', h1, h2⟩ := h d hd acc
  obtain ⟨k, S1, e1, rfl, rfl, h3⟩ := RP.get h2
  refine ⟨ρ', h1, e1, fun hb => ?_⟩
  obtain ⟨x, S2, e2, rfl, rfl⟩ := RP.get (h3 hb)
  exact e2
theorem rp_lclive {tg : Tg} {c : Ev → St' → R Bool} {e : Ev → St' → R SV} {ρ : Ev} {S : St'} {P : List D → St' → Prop} {E : EX} {xs : List D} {i : Nat} (b : D → Bool) (v : D → D) (hi : S[i]? = some (.lst xs)) (hl : xs.length ≤ sizeLine)
    (h : ∀ d ∈ xs, ∀ acc, ∃ ρ', bindTg tg d ρ = some ρ' ∧ RP (c ρ' (S ++ [.lst acc])) (fun k S1 => k = b d ∧ S1 = S ++ [.lst acc] ∧ (k = true → RP (e ρ' (S ++ [.lst acc])) (fun x S2 => x = .t (v d) ∧ S2 = S ++ [.lst acc]) noE)) noE)
    (hp : P ((xs.filter b).map v) S) : RP (lcSrc tg c e (.live i) ρ S) P E := by
  unfold lcSrc
  simp only [hi]
  refine RP.eq (lcLive_map (b := b) (v := v) hi (fun d hd acc => ?_) xs.length 0 [] (by omega) (by simpa using hl)) (by simpa using hp)
  obtain ⟨ρ', h1, h2⟩ := h d hd acc
  obtain ⟨k, S1, e1, rfl, rfl, h3⟩ := RP.get h2
  refine ⟨ρ', h1, e1, fun hb => ?_⟩
  obtain ⟨x, S2, e2, rfl, rfl⟩ := RP.get (h3 hb)
  exact e2
theorem rp_t0 {F : FS} {ρ : Ev} {S : St'} {P : Bool → St' → Prop} {E : EX} (h : P true S) : RP (tests (evalCs F []) ρ S) P E := by rw [evalCs, tests]; exact h
theorem rp_t1 {F : FS} {ρ : Ev} {S : St'} {P : Bool → St' → Prop} {E : EX} {e : ME} (h : RP (evalE F e ρ S) (fun x S1 => ∃ k, truth S1 x = some k ∧ P k S1) E) : RP (tests (evalCs F [e]) ρ S) P E := by
  rw [evalCs, tests]
  exact rp_tru h
/-- the slots at a call's begin -/
def pad : List SV → Nat → Ev
  | _, 0 => []
  | [], n + 1 => none :: pad [] n
  | v :: vs, n + 1 => some v :: pad vs n
theorem pad_eq : ∀ (vs : List SV) (n : Nat), vs.length ≤ n → vs.map some ++ List.replicate (n - vs.length) none = pad vs n
  | [], 0, _ => rfl
  | v :: vs, 0, h => by simp at h
  | [], n + 1, _ => by
    rw [pad, ← pad_eq [] n (Nat.zero_le _)]
    simp [List.replicate_succ]
  | v :: vs, n + 1, h => by
    simp only [List.length_cons] at h
    rw [pad, ← pad_eq vs n (by omega)]
    simp
/-- a call -/
theorem rp_fn {T : List Fn} {i n : Nat} {f : Fn} {vs : List SV} {S : St'} {P : SV → St' → Prop} {E : EX} (hT : T[i]? = some f) (hl : vs.length = f.ar) (hs : Nat.ble f.ar f.sl = true)
    (h : OP (execB (FT T n) f.body (pad vs f.sl) S) (fun _ S' => P (.t .non) (S'.take S.length)) noN noN { rt := fun v S' => RP (finish S.length v S') P E, ex := fun c p _ S' => E c p (S'.take S.length) }) : RP (FT T (n + 1) i vs S) P E := by
  rw [FT_at hT]
  unfold callF
  rw [if_pos hl, pad_eq _ _ (by rw [hl]; exact Nat.le_of_ble_eq_true hs)]
  revert h
  cases execB (FT T n) f.body (pad vs f.sl) S with
  | nx ρ2 S2 => exact fun h2 => h2
  | ct ρ2 S2 => exact fun h2 => h2
  | bk ρ2 S2 => exact fun h2 => h2
  | rt v S2 => exact fun h2 => h2
  | exc c p ρ2 S2 => exact fun h2 => h2
  | bad => exact fun h2 => h2
theorem fin0 {S : St'} {d : D} {P : SV → St' → Prop} {E : EX} (h : P (.t d) S) : RP (finish S.length (.t d) S) P E := by
  unfold finish; rw [List.take_length]; exact h
theorem fin1 {S : St'} {d : D} {o : O} {P : SV → St' → Prop} {E : EX} (h : P (.t d) S) : RP (finish S.length (.t d) (S ++ [o])) P E := by
  unfold finish; simp only [List.take_left]; exact h
theorem fin2 {S : St'} {d : D} {o u : O} {P : SV → St' → Prop} {E : EX} (h : P (.t d) S) : RP (finish S.length (.t d) ((S ++ [o]) ++ [u])) P E := by
  unfold finish; simp only [List.append_assoc, List.take_left]; exact h
theorem fino1 {S : St'} {xs : List D} {P : SV → St' → Prop} {E : EX} (h : P (.t (.lst xs)) S) : RP (finish S.length (.o S.length) (S ++ [.lst xs])) P E := by
  unfold finish; simp only [Nat.lt_irrefl, if_false, st_get, List.take_left]; exact h
theorem rp_finU {S S' : St'} {P : SV → St' → Prop} {E : EX} (h : P (.t .non) S) (e : S'.take S.length = S) : P (.t .non) (S'.take S.length) := by rw [e]; exact h
theorem le_sz {n : Nat} (h : Nat.ble n 16777216 = true) : n ≤ sizeLine := by
  have := Nat.le_of_ble_eq_true h
  have e : sizeLine = 16777216 := by decide +kernel
  omega
theorem lt_sz {n : Nat} (h : n < 16777216) : n < sizeLine := by
  have e : sizeLine = 16777216 := by decide +kernel
  omega
theorem le_sz' {n : Nat} (h : n ≤ 16777216) : n ≤ sizeLine := by
  have e : sizeLine = 16777216 := by decide +kernel
  omega
/-- [e for x in xs if c], the items being f y -/
theorem rp_lcF {α : Type} {F : FS} {tg : Tg} {cs : List ME} {e : ME} {ρ : Ev} {S : St'} {P : List D → St' → Prop} {E : EX} {ys : List α} (f : α → D) (b : α → Bool) (g : α → D) (hl : ys.length ≤ 16777216)
    (h : ∀ y ∈ ys, ∀ acc, ∃ ρ', bindTg tg (f y) ρ = some ρ' ∧ RP (tests (evalCs F cs) ρ' (S ++ [.lst acc])) (fun k S1 => k = b y ∧ S1 = S ++ [.lst acc] ∧ (k = true → RP (evalE F e ρ' (S ++ [.lst acc])) (fun x S2 => x = .t (g y) ∧ S2 = S ++ [.lst acc]) noE)) noE)
    (hp : P ((ys.filter b).map g) S) : RP (lcSrc tg (tests (evalCs F cs)) (evalE F e) (.fix (ys.map f)) ρ S) P E := by
  have key : ∀ (ys : List α) (acc : List D), (∀ y ∈ ys, ∀ acc, ∃ ρ', bindTg tg (f y) ρ = some ρ' ∧ RP (tests (evalCs F cs) ρ' (S ++ [.lst acc])) (fun k S1 => k = b y ∧ S1 = S ++ [.lst acc] ∧ (k = true → RP (evalE F e ρ' (S ++ [.lst acc])) (fun x S2 => x = .t (g y) ∧ S2 = S ++ [.lst acc]) noE)) noE) → acc.length + ys.length ≤ 16777216 → lcFix tg (tests (evalCs F cs)) (evalE F e) S.length (ys.map f) ρ (S ++ [.lst acc]) = .ok (acc ++ (ys.filter b).map g) S := by
    intro ys
    induction ys with
    | nil => intro acc _ _; simp [lcFix, lcEnd]
    | cons y ys ih =>
      intro acc h hl
      obtain ⟨ρ', h1, h2⟩ := h y List.mem_cons_self acc
      obtain ⟨k, S1, e1, rfl, rfl, h3⟩ := RP.get h2
      simp only [List.length_cons] at hl
      rw [List.map_cons, lcFix, lcTurn, h1]
      simp only [e1, R.nox_ok, R.bind_ok]
      cases hb : b y with
      | true =>
        obtain ⟨x, S2, e2, rfl, rfl⟩ := RP.get (h3 hb)
        simp only [e2, R.nox_ok, R.bind_ok, lcPut, grab, if_true, st_get]
        have hlt : acc.length < sizeLine := lt_sz (by omega)
        simp only [hlt, if_true, R.bind_ok, st_set]
        rw [ih _ (fun y hy => h y (List.mem_cons_of_mem _ hy)) (by simp; omega)]
        rw [List.filter_cons_of_pos hb, List.map_cons, List.append_assoc, List.singleton_append]
      | false =>
        simp only [Bool.false_eq_true, if_false, R.bind_ok]
        rw [ih _ (fun y hy => h y (List.mem_cons_of_mem _ hy)) (by omega)]
        rw [List.filter_cons_of_neg (by simp [hb])]
  unfold lcSrc
  exact RP.eq (key ys [] h (by simpa using hl)) (by simpa using hp)
/-- [e for x in xs] -/
theorem rp_lcM {α : Type} {F : FS} {tg : Tg} {e : ME} {ρ : Ev} {S : St'} {P : List D → St' → Prop} {E : EX} {ys : List α} (f g : α → D) (hl : ys.length ≤ 16777216)
    (h : ∀ y ∈ ys, ∀ acc, ∃ ρ', bindTg tg (f y) ρ = some ρ' ∧ RP (evalE F e ρ' (S ++ [.lst acc])) (fun x S2 => x = .t (g y) ∧ S2 = S ++ [.lst acc]) noE)
    (hp : P (ys.map g) S) : RP (lcSrc tg (tests (evalCs F [])) (evalE F e) (.fix (ys.map f)) ρ S) P E := by
  refine rp_lcF f (fun _ => true) g hl (fun y hy acc => ?_) ?_
  · obtain ⟨ρ', h1, h2⟩ := h y hy acc
    exact ⟨ρ', h1, rp_t0 ⟨rfl, rfl, fun _ => h2⟩⟩
  · rw [List.filter_eq_self.mpr fun _ _ => rfl]
    exact hp
/-- .. over an object -/
theorem rp_lcV {α : Type} {F : FS} {tg : Tg} {e : ME} {ρ : Ev} {S : St'} {P : List D → St' → Prop} {E : EX} {ys : List α} {i : Nat} (f g : α → D) (hi : S[i]? = some (.lst (ys.map f))) (hl : ys.length ≤ 16777216)
    (h : ∀ y ∈ ys, ∀ acc, ∃ ρ', bindTg tg (f y) ρ = some ρ' ∧ RP (evalE F e ρ' (S ++ [.lst acc])) (fun x S2 => x = .t (g y) ∧ S2 = S ++ [.lst acc]) noE)
    (hp : P (ys.map g) S) : RP (lcSrc tg (tests (evalCs F [])) (evalE F e) (.live i) ρ S) P E := by
  have hil : i < S.length := (List.getElem?_eq_some_iff.mp hi).1
  have key : ∀ (n j : Nat) (acc : List D), j + n = ys.length → acc.length + n ≤ 16777216 → lcLive tg (fun _ S => R.ok true S) (evalE F e) S.length i n j ρ (S ++ [.lst acc]) = .ok (acc ++ (ys.drop j).map g) S := by
    intro n
    induction n with
    | zero =>
      intro j acc hj _
      unfold lcLive
      rw [List.getElem?_append_left hil, hi]
      simp only
      rw [List.getElem?_eq_none (by simp; omega), List.drop_eq_nil_of_le (by omega)]
      simp [lcEnd]
    | succ n ih =>
      intro j acc hj hl
      have hjl : j < ys.length := by omega
      obtain ⟨ρ', h1, h2⟩ := h ys[j] (List.getElem_mem hjl) acc
      obtain ⟨x, S2, e2, rfl, rfl⟩ := RP.get h2
      unfold lcLive
      rw [List.getElem?_append_left hil, hi]
      simp only
      rw [List.getElem?_map, List.getElem?_eq_getElem hjl]
      simp only [Option.map_some, lcTurn, h1, R.nox_ok, R.bind_ok, if_true, e2, lcPut, grab, st_get]
      have hlt : acc.length < sizeLine := lt_sz (by omega)
      simp only [hlt, if_true, R.bind_ok, st_set]
      rw [ih (j + 1) _ (by omega) (by simp; omega), List.drop_eq_getElem_cons hjl]
      simp only [List.map_cons, List.append_assoc, List.cons_append, List.nil_append]
  have ht : tests (evalCs F []) = fun _ S => R.ok true S := by rw [evalCs, tests]
  rw [ht]
  unfold lcSrc
  simp only [hi]
  exact RP.eq (by rw [List.length_map]; exact key ys.length 0 [] (by omega) (by simpa using hl)) (by simpa using hp)
def fz2 (f : Fz) (S : St') (vs : List SV) : Option D := (peeks S vs).bind (fzD f)
theorem rp_fz {F : FS} {ρ : Ev} {S : St'} {P : SV → St' → Prop} {E : EX} {f : Fz} {es : List ME} (hp : RP (evalEs F es ρ S) (fun vs S1 => ∃ r, fz2 f S1 vs = some r ∧ P (.t r) S1) E) : RP (evalE F (.fz f es) ρ S) P E := by
  rw [evalE]
  refine RP.bind (hp.imp fun vs S1 ⟨r, h1, h2⟩ => RP.opt ⟨.t r, ?_, h2⟩)
  unfold fz2 at h1
  obtain ⟨d, e1, h1⟩ := Option.bind_eq_some_iff.mp h1
  rw [e1, Option.bind_some, h1]; rfl
theorem src_live {S : St'} {xs : List D} : srcOf (S ++ [.lst xs]) (.o S.length) = some (.live S.length) := by simp only [srcOf, st_get]
theorem bi_live {b : Bi} {S : St'} {xs : List D} {r : D} (h : biD b [.lst xs] = some r) : bi2 b (S ++ [.lst xs]) [.o S.length] = some r := by
  simp only [bi2, peeks, peek, st_get, Option.map_some, Option.bind_some, h]
theorem rngOk_in {i : Int} (h0 : -4611686018427387904 ≤ i) (h1 : i < 4611686018427387904) : rngOk i = true := by
  unfold rngOk
  exact decide_eq_true ⟨h0, h1⟩
/-- as a test -/
def RT (r : R SV) (Pt Pf : St' → Prop) (E : EX) : Prop := RP r (fun x S1 => ∃ k, truth S1 x = some k ∧ (k = true → Pt S1) ∧ (k = false → Pf S1)) E
section
variable {F : FS} {ρ : Ev} {S : St'} {a b c e : ME} {Pt Pf : St' → Prop} {E : EX}
theorem rt_of (h : RP (evalE F a ρ S) (fun x S1 => ∃ k, truth S1 x = some k ∧ (k = true → Pt S1) ∧ (k = false → Pf S1)) E) : RT (evalE F a ρ S) Pt Pf E := h
theorem rt_and (h : RT (evalE F a ρ S) (fun S1 => RT (evalE F b ρ S1) Pt Pf E) Pf E) : RT (evalE F (.and a b) ρ S) Pt Pf E :=
  rp_and (RP.imp h fun x S1 ⟨k, h1, h2, h3⟩ => ⟨k, h1, h2, fun hk => ⟨k, h1, fun z => (by rw [hk] at z; cases z), h3⟩⟩)
theorem rt_or (h : RT (evalE F a ρ S) Pt (fun S1 => RT (evalE F b ρ S1) Pt Pf E) E) : RT (evalE F (.or a b) ρ S) Pt Pf E :=
  rp_or (RP.imp h fun x S1 ⟨k, h1, h2, h3⟩ => ⟨k, h1, fun hk => ⟨k, h1, h2, fun z => (by rw [hk] at z; cases z)⟩, h3⟩)
theorem rt_not (h : RT (evalE F a ρ S) Pf Pt E) : RT (evalE F (.not a) ρ S) Pt Pf E :=
  rp_not (RP.imp h fun x S1 ⟨k, h1, h2, h3⟩ => ⟨k, h1, !k, rfl, fun z => h3 (by simpa using z), fun z => h2 (by simpa using z)⟩)
theorem op_ifT {ss ss' : List MS} {P : Po} {nx bk ct : NX} (h : RT (evalE F c ρ S) (fun S1 => OP (execB F ss ρ S1) nx bk ct P) (fun S1 => OP (execB F ss' ρ S1) nx bk ct P) fun c p S1 => P.ex c p ρ S1) : OP (execS F (.ife c ss ss') ρ S) nx bk ct P := op_ife h
theorem rp_ifT {P : SV → St' → Prop} (h : RT (evalE F c ρ S) (fun S1 => RP (evalE F a ρ S1) P E) (fun S1 => RP (evalE F b ρ S1) P E) E) : RP (evalE F (.ife c a b) ρ S) P E := rp_ife h
end
end M

/-! the laws' own defs that most laws share: what they come to -/
namespace M
open PySem PySem.Spec PyProof.Rows L2
/-- _law_cell_at(script, k): 0 script, 1 k -/
def f__law_cell_at : Fn := ⟨2, 2,
  [(.ife (.cmp .lt (.var 1) (.bi .len [(.var 0)])) [(.ret (.idx (.var 0) (.var 1)))] []),
  (.ret (.lit (D.int 0)))]⟩
/-- _law_draws(cell, many, base): 0 cell, 1 many, 2 base, 3 found, 4 rest, 5 stirred, 6 k -/
def f__law_draws : Fn := ⟨3, 7,
  [(.new 3 (.lst [])),
  (.asg (.v 4) (.bin .mul (.var 0) (.bi .int [(.cmp .ge (.var 0) (.bin .pow (.lit (D.int 10)) (.lit (D.int 18))))]))),
  (.asg (.v 5) (.bin .mod (.var 0) (.lit (D.int 2305843009213693951)))),
  (.for_ (.v 6) (.range1 (.bin .add (.var 1) (.lit (D.int 3)))) [(.asg (.v 5) (.bin .mod (.bin .add (.bin .add (.bin .add (.bin .mul (.var 5) (.var 5)) (.bin .mul (.lit (D.int 48271)) (.var 5))) (.var 6)) (.lit (D.int 1))) (.lit (D.int 2305843009213693951)))),
  (.ife (.and (.cmp .gt (.var 6) (.lit (D.int 2))) (.cmp .gt (.var 4) (.lit (D.int 0)))) [(.app 3 (.bin .mod (.var 4) (.var 2))),
  (.asg (.v 4) (.bin .fdiv (.var 4) (.var 2)))] [(.ife (.cmp .gt (.var 6) (.lit (D.int 2))) [(.app 3 (.bin .mod (.bin .fdiv (.var 5) (.lit (D.int 4096))) (.var 2)))] [])])]),
  (.ret (.var 3))]⟩
/-- _law_name(some, taken): 0 some, 1 taken, 2 letters, 3 size, 4 word, 5 k, 6 barred, 7 ways, 8 letter, 9 one -/
def f__law_name : Fn := ⟨2, 10,
  [(.asg (.v 2) (.lit (D.str "abcdefghijklmnopqrstuvwxyz"))),
  (.asg (.v 3) (.bin .add (.bin .mul (.bin .add (.bin .mul (.bin .add (.bin .mul (.idx (.var 0) (.lit (D.int 1))) (.lit (D.int 1000))) (.idx (.var 0) (.lit (D.int 2)))) (.lit (D.int 1000))) (.idx (.var 0) (.lit (D.int 3)))) (.lit (D.int 1000))) (.idx (.var 0) (.lit (D.int 4))))),
  (.asg (.v 4) (.lit (D.str ""))),
  (.for_ (.v 5) (.range1 (.bin .add (.lit (D.int 1)) (.bin .mod (.idx (.var 0) (.lit (D.int 0))) (.lit (D.int 8))))) [(.asg (.v 4) (.bin .add (.var 4) (.idx (.var 2) (.bin .mod (.var 3) (.lit (D.int 26)))))),
  (.asg (.v 3) (.bin .fdiv (.var 3) (.lit (D.int 26))))]),
  (.asg (.v 6) (.lit (D.str "rows view where keep named pairs both less count seal and or not mine empty loud yes has"))),
  (.asg (.v 7) (.bin .add (.lst [(.var 4)]) (.lc (.v 8) (.of (.var 2)) [] (.bin .add (.bin .add (.slc (.var 4) [] [(.lit (D.int 6))]) (.var 8)) (.lit (D.str "z")))))),
  (.ret (.idx (.lc (.v 9) (.of (.var 7)) [(.and (.cmp .notin (.var 9) (.var 1)) (.cmp .notin (.var 9) (.mth .split (.var 6) [(.lit (D.str " "))])))] (.var 9)) (.lit (D.int 0))))]⟩
/-- _law_columns(picks, many, top): 0 picks, 1 many, 2 top, 3 found, 4 room, 5 k, 6 some, 7 values, 8 empty, 9 one -/
def f__law_columns (i__law_name : Nat) : Fn := ⟨3, 10,
  [(.new 3 (.lst [])),
  (.asg (.v 4) (.lit (D.int 1))),
  (.for_ (.v 5) (.range1 (.var 1)) [(.asg (.v 6) (.slc (.var 0) [(.bin .mul (.lit (D.int 7)) (.var 5))] [(.bin .add (.bin .mul (.lit (D.int 7)) (.var 5)) (.lit (D.int 7)))])),
  (.asg (.v 7) (.bin .add (.lit (D.int 1)) (.bin .mod (.idx (.var 6) (.lit (D.int 5))) (.bi .min [(.lit (D.int 10)), (.bin .fdiv (.var 2) (.var 4))])))),
  (.asg (.v 8) (.or (.cmp .eq (.var 7) (.lit (D.int 10))) (.and (.cmp .gt (.var 7) (.lit (D.int 1))) (.cmp .eq (.bin .mod (.idx (.var 6) (.lit (D.int 6))) (.lit (D.int 3))) (.lit (D.int 0)))))),
  (.app 3 (.tup [(.call i__law_name [(.var 6), (.lc (.v 9) (.of (.var 3)) [] (.idx (.var 9) (.lit (D.int 0))))]), (.bin .sub (.var 7) (.bi .int [(.var 8)])), (.var 8)])),
  (.asg (.v 4) (.bin .mul (.var 4) (.var 7)))]),
  (.ret (.tup [(.bi .tuple [(.var 3)]), (.var 4)]))]⟩
/-- _law_ground(picks, top): 0 picks, 1 top, 2 found, 3 left, 4 k, 5 some, 6 columns, 7 room, 8 key, 9 name, 10 one -/
def f__law_ground (i__law_columns i__law_name : Nat) : Fn := ⟨2, 11,
  [(.new 2 (.lst [])),
  (.asg (.v 3) (.var 1)),
  (.for_ (.v 4) (.range1 (.bin .add (.lit (D.int 1)) (.bin .mod (.idx (.var 0) (.lit (D.int 0))) (.lit (D.int 4))))) [(.asg (.v 5) (.slc (.var 0) [(.bin .add (.lit (D.int 1)) (.bin .mul (.lit (D.int 36)) (.var 4)))] [(.bin .add (.lit (D.int 37)) (.bin .mul (.lit (D.int 36)) (.var 4)))])),
  (.ife (.cmp .gt (.var 3) (.lit (D.int 0))) [(.asg (.tp [6, 7]) (.call i__law_columns [(.slc (.var 5) [(.lit (D.int 7))] []), (.bin .add (.lit (D.int 1)) (.bin .mod (.idx (.var 5) (.lit (D.int 5))) (.lit (D.int 4)))), (.var 3)])),
  (.asg (.v 8) (.ife (.bi .any [(.lc (.v 10) (.of (.var 6)) [] (.idx (.var 10) (.lit (D.int 2))))]) (.mth .index (.lc (.v 10) (.of (.var 6)) [] (.idx (.var 10) (.lit (D.int 2)))) [(.lit (D.bl true))]) (.bi .len [(.var 6)]))),
  (.asg (.v 9) (.call i__law_name [(.var 5), (.lc (.v 10) (.of (.var 2)) [] (.idx (.var 10) (.lit (D.int 0))))])),
  (.app 2 (.tup [(.var 9), (.bin .mod (.idx (.var 5) (.lit (D.int 6))) (.bin .add (.var 8) (.lit (D.int 1)))), (.var 6)])),
  (.asg (.v 3) (.bin .sub (.var 3) (.var 7)))] [])]),
  (.ret (.bi .tuple [(.bi .sorted [(.var 2)])]))]⟩

theorem rangeD_nil {lo hi : Int} (h : hi ≤ lo) : rangeD lo hi = [] := by
  unfold rangeD
  rw [show (hi - lo).toNat = 0 by omega]; rfl
theorem rangeD_cons {lo hi : Int} (h : lo < hi) : rangeD lo hi = .int lo :: rangeD (lo + 1) hi := by
  unfold rangeD
  obtain ⟨n, hn⟩ : ∃ n, (hi - lo).toNat = n + 1 := ⟨(hi - lo).toNat - 1, by omega⟩
  rw [hn, show (hi - (lo + 1)).toNat = n by omega, List.range_succ_eq_map, List.map_cons, List.map_map]
  congr 1
  · simp
  · apply List.map_congr_left
    intro k _
    simp only [Function.comp]
    congr 1
    omega
theorem cell_at_ok {T : List Fn} {i : Nat} (hT : T[i]? = some f__law_cell_at) (n : Nat) (ns : List Int) (S : St') :
    ∃ c : Int, FT T (n + 1) i [.t (.lst (ns.map .int)), .t (.int 0)] S = .ok (.t (.int c)) S := by
  rw [FT_at hT]
  cases ns with
  | nil =>
    refine ⟨0, callF_rt rfl (S' := S) ?_ (by simp)⟩
    simp only [f__law_cell_at]
    simp only [execB, execS, evalE, evalEs, evalP, evalI, evalL, evalCs, tests, tru, R.bind_ok, R.opt_some, Out.of_ok, Out.seq_nx, Out.seq_rt, peek, peeks, grab, grabs, binD, cmpD, idxD, slcD, biD, truD, isiD, srcOf, forSrc, lcSrc, bindTg, setTg, tpO, appO, setO, augO, scalD, st_get, st_set, st_get2, st_set2, szl, List.map_cons, List.map_nil, List.cons_append, List.nil_append, List.getElem?_cons_zero, List.getElem?_cons_succ, List.set_cons_zero, List.set_cons_succ, List.length_cons, List.length_nil, Option.map_some, Option.bind_some, Option.getD_some, if_true, if_false, List.replicate, Bool.false_eq_true, reduceCtorEq, Bool.not_true, Bool.not_false, and_true, true_and, and_self, true_or, or_true, false_or, or_false, and_false, false_and, decide_true, decide_false, decide_eq_true_eq, Bool.true_or, Bool.false_or, Bool.or_true, Bool.or_false, Bool.true_and, Bool.false_and, ite_true, ite_false, not_true_eq_false, not_false_eq_true, asInts, asBls, asStrs, mtOk, Int.ofNat_zero, Int.lt_irrefl]
  | cons a r =>
    refine ⟨a, callF_rt rfl (S' := S) ?_ (by simp)⟩
    simp only [f__law_cell_at]
    have h1 : ((0 : Int) < ((List.map D.int r).length + 1 : Nat)) = True := by simp
    have h2 : atI (D.int a :: List.map D.int r) 0 = some (D.int a) := L2.atI_nat (j := 0) rfl
    simp only [execB, execS, evalE, evalEs, evalP, evalI, evalL, evalCs, tests, tru, R.bind_ok, R.opt_some, Out.of_ok, Out.seq_nx, Out.seq_rt, peek, peeks, grab, grabs, binD, cmpD, idxD, slcD, biD, truD, isiD, srcOf, forSrc, lcSrc, bindTg, setTg, tpO, appO, setO, augO, scalD, st_get, st_set, st_get2, st_set2, szl, List.map_cons, List.map_nil, List.cons_append, List.nil_append, List.getElem?_cons_zero, List.getElem?_cons_succ, List.set_cons_zero, List.set_cons_succ, List.length_cons, List.length_nil, Option.map_some, Option.bind_some, Option.getD_some, if_true, if_false, List.replicate, Bool.false_eq_true, reduceCtorEq, Bool.not_true, Bool.not_false, and_true, true_and, and_self, true_or, or_true, false_or, or_false, and_false, false_and, decide_true, decide_false, decide_eq_true_eq, Bool.true_or, Bool.false_or, Bool.or_true, Bool.or_false, Bool.true_and, Bool.false_and, ite_true, ite_false, not_true_eq_false, not_false_eq_true, asInts, asBls, asStrs, mtOk, h1, h2]
theorem draws_ok {T : List Fn} {i : Nat} (hT : T[i]? = some f__law_draws) (n : Nat) (c many base : Int) (hm : 0 ≤ many ∧ many ≤ 1000000) (hb : 0 < base ∧ base < 1073741824) (S : St') :
    RP (FT T (n + 1) i [.t (.int c), .t (.int many), .t (.int base)] S) (fun v S' => S' = S ∧ ∃ ds : List Int, v = .t (.lst (ds.map .int)) ∧ ds.length = many.toNat ∧ (∀ x ∈ ds, 0 ≤ x ∧ x < base)) noE := by
  refine rp_fn hT rfl rfl ?_
  simp only [f__law_draws, pad]
  repeat' (first
    | with_reducible refine rp_var (by with_unfolding_all rfl) ?_
    | with_reducible refine rp_lit ?_
    | with_reducible refine rp_glb ?_
    | with_reducible refine rp_bin ?_
    | with_reducible refine rp_cmp ?_
    | with_reducible refine rp_cons ?_
    | with_reducible refine rp_nil ?_
    | with_reducible refine rp_idx ?_
    | with_reducible refine rp_call ?_
    | with_reducible refine rp_bi ?_
    | with_reducible refine rp_fz ?_
    | with_reducible refine rp_and ?_
    | with_reducible refine rp_or ?_
    | with_reducible refine rp_not ?_
    | with_reducible refine rp_ifT ?_
    | with_reducible refine rp_slc ?_
    | with_reducible refine rp_p0 ?_
    | with_reducible refine rp_p1 ?_
    | with_reducible refine rp_tup ?_
    | with_reducible refine rp_lst ?_
    | with_reducible refine rp_isi ?_
    | with_reducible refine rp_isit ?_
    | with_reducible refine rp_mth ?_
    | with_reducible refine rp_cmp2 ?_
    | with_reducible refine rp_neg ?_
    | with_reducible refine rp_t0 ?_
    | with_reducible refine rp_t1 ?_
    | with_reducible refine rp_lc ?_
    | with_reducible refine rp_lcL ?_
    | with_reducible refine rp_lstL ?_
    | with_reducible refine rp_catL ?_
    | with_reducible refine rp_listL ?_
    | with_reducible refine rp_of ?_
    | with_reducible refine rp_r1 ?_
    | with_reducible refine rp_r2 ?_
    | with_reducible refine rp_enum ?_
    | with_reducible refine rp_zip ?_
    | with_reducible refine op_nil ?_
    | with_reducible refine op_norm (by simp only [List.set_cons_succ, List.set_cons_zero, List.map_cons, List.map_nil, List.cons_append, List.nil_append]; rfl) (op_cons ?_)
    | with_reducible refine op_cons ?_
    | with_reducible refine op_asg ?_
    | with_reducible refine op_ifT ?_
    | with_reducible refine rt_and ?_
    | with_reducible refine rt_or ?_
    | with_reducible refine rt_not ?_
    | with_reducible refine rt_of ?_
    | with_reducible refine op_ret ?_
    | with_reducible refine op_new ?_
    | with_reducible refine op_app (by with_unfolding_all rfl) (by first | exact st_get | exact st_get2) ?_
    | with_reducible refine op_aug (by with_unfolding_all rfl) (by decide) ?_
    | with_reducible refine op_for ?_
    | with_reducible refine op_par ?_
    | with_reducible refine op_tp ?_
    | with_reducible refine op_seti (by with_unfolding_all rfl) ?_
    | with_reducible refine op_expr ?_
    | with_reducible refine op_doc ?_
    | with_reducible refine op_pass ?_
    | with_reducible refine op_retN ?_
    | with_reducible refine fin0 ?_
    | with_reducible refine fin1 ?_
    | with_reducible refine fino1 ?_
    | with_reducible refine fin2 ?_
    | refine ⟨_, _, _, _, rfl, st_get, lt_sz (by first | omega | (simp only [List.length_map, List.length_append, List.length_cons, List.length_nil]; omega)), st_set, ?_⟩
    | refine ⟨_, rfl, rngOk_in (by omega) (by omega), ?_⟩
    | refine ⟨_, src_live, ?_⟩
    | refine ⟨_, bi_live rfl, ?_⟩
    | (refine ⟨_, rfl, fun h => ?_, fun h => ?_⟩ <;> try (exact absurd h (by decide)))
    | refine ⟨_, rfl, ?_⟩
    | refine ⟨_, if_pos (by first | assumption | omega), ?_⟩
    | refine ⟨_, _, rfl, le_sz rfl, ?_⟩
    | refine ⟨_, _, rfl, rfl, ?_⟩
    | refine ⟨_, _, rfl, if_pos (by first | assumption | omega), ?_⟩
    | refine ⟨_, rfl, rfl, ?_⟩
    | refine ⟨rfl, ?_⟩
    | exact rfl
    | dsimp only)
  refine op_fix (fun l ρ S' => ∃ (k r st : Int) (acc : List Int) (kk : Option SV), 0 ≤ k ∧ k ≤ many + 3 ∧ l = rangeD k (many + 3) ∧ ρ = [some (.t (.int c)), some (.t (.int many)), some (.t (.int base)), some (.o S.length), some (.t (.int r)), some (.t (.int st)), kk] ∧ S' = S ++ [.lst (acc.map .int)] ∧ 0 ≤ r ∧ (0 ≤ st ∧ st < 2305843009213693951) ∧ (acc.length : Int) = max 0 (k - 3) ∧ (∀ x ∈ acc, 0 ≤ x ∧ x < base)) ?_ ?_ ?_
  · refine ⟨0, _, _, [], none, by omega, by omega, rfl, rfl, rfl, ?_, ⟨Int.emod_nonneg _ (by decide), Int.emod_lt_of_pos _ (by decide)⟩, by rfl, by simp⟩
    split
    · rename_i h
      have := of_decide_eq_true h
      simp at this ⊢
      omega
    · simp
  · rintro d ds ρ S' ⟨k, r, st, acc, kk, hk0, hk, hl, rfl, rfl, hr, hst, ha, hx⟩
    have hlt : k < many + 3 := by
      rcases Int.lt_or_le k (many + 3) with h | h
      · exact h
      · rw [rangeD_nil h] at hl; cases hl
    rw [rangeD_cons hlt] at hl
    cases hl
    refine ⟨_, rfl, ?_⟩
    have hmd : 0 ≤ (st * st + 48271 * st + k + 1) % 2305843009213693951 ∧ (st * st + 48271 * st + k + 1) % 2305843009213693951 < 2305843009213693951 := ⟨Int.emod_nonneg _ (by decide), Int.emod_lt_of_pos _ (by decide)⟩
    have hA : acc.length < 10000000 := by omega
    repeat' (first
    | with_reducible refine rp_var (by with_unfolding_all rfl) ?_
    | with_reducible refine rp_lit ?_
    | with_reducible refine rp_glb ?_
    | with_reducible refine rp_bin ?_
    | with_reducible refine rp_cmp ?_
    | with_reducible refine rp_cons ?_
    | with_reducible refine rp_nil ?_
    | with_reducible refine rp_idx ?_
    | with_reducible refine rp_call ?_
    | with_reducible refine rp_bi ?_
    | with_reducible refine rp_fz ?_
    | with_reducible refine rp_and ?_
    | with_reducible refine rp_or ?_
    | with_reducible refine rp_not ?_
    | with_reducible refine rp_ifT ?_
    | with_reducible refine rp_slc ?_
    | with_reducible refine rp_p0 ?_
    | with_reducible refine rp_p1 ?_
    | with_reducible refine rp_tup ?_
    | with_reducible refine rp_lst ?_
    | with_reducible refine rp_isi ?_
    | with_reducible refine rp_isit ?_
    | with_reducible refine rp_mth ?_
    | with_reducible refine rp_cmp2 ?_
    | with_reducible refine rp_neg ?_
    | with_reducible refine rp_t0 ?_
    | with_reducible refine rp_t1 ?_
    | with_reducible refine rp_lc ?_
    | with_reducible refine rp_lcL ?_
    | with_reducible refine rp_lstL ?_
    | with_reducible refine rp_catL ?_
    | with_reducible refine rp_listL ?_
    | with_reducible refine rp_of ?_
    | with_reducible refine rp_r1 ?_
    | with_reducible refine rp_r2 ?_
    | with_reducible refine rp_enum ?_
    | with_reducible refine rp_zip ?_
    | with_reducible refine op_nil ?_
    | with_reducible refine op_norm (by simp only [List.set_cons_succ, List.set_cons_zero, List.map_cons, List.map_nil, List.cons_append, List.nil_append]; rfl) (op_cons ?_)
    | with_reducible refine op_cons ?_
    | with_reducible refine op_asg ?_
    | with_reducible refine op_ifT ?_
    | with_reducible refine rt_and ?_
    | with_reducible refine rt_or ?_
    | with_reducible refine rt_not ?_
    | with_reducible refine rt_of ?_
    | with_reducible refine op_ret ?_
    | with_reducible refine op_new ?_
    | with_reducible refine op_app (by with_unfolding_all rfl) (by first | exact st_get | exact st_get2) ?_
    | with_reducible refine op_aug (by with_unfolding_all rfl) (by decide) ?_
    | with_reducible refine op_for ?_
    | with_reducible refine op_par ?_
    | with_reducible refine op_tp ?_
    | with_reducible refine op_seti (by with_unfolding_all rfl) ?_
    | with_reducible refine op_expr ?_
    | with_reducible refine op_doc ?_
    | with_reducible refine op_pass ?_
    | with_reducible refine op_retN ?_
    | with_reducible refine fin0 ?_
    | with_reducible refine fin1 ?_
    | with_reducible refine fino1 ?_
    | with_reducible refine fin2 ?_
    | refine ⟨_, _, _, _, rfl, st_get, lt_sz (by first | omega | (simp only [List.length_map, List.length_append, List.length_cons, List.length_nil]; omega)), st_set, ?_⟩
    | refine ⟨_, rfl, rngOk_in (by omega) (by omega), ?_⟩
    | refine ⟨_, src_live, ?_⟩
    | refine ⟨_, bi_live rfl, ?_⟩
    | (refine ⟨_, rfl, fun h => ?_, fun h => ?_⟩ <;> try (exact absurd h (by decide)))
    | refine ⟨_, rfl, ?_⟩
    | refine ⟨_, if_pos (by first | assumption | omega), ?_⟩
    | refine ⟨_, _, rfl, le_sz rfl, ?_⟩
    | refine ⟨_, _, rfl, rfl, ?_⟩
    | refine ⟨_, _, rfl, if_pos (by first | assumption | omega), ?_⟩
    | refine ⟨_, rfl, rfl, ?_⟩
    | refine ⟨rfl, ?_⟩
    | exact rfl
    | dsimp only)
    all_goals (try simp only [decide_eq_true_eq, decide_eq_false_iff_not, Int.not_lt, Int.not_le, bne_iff_ne, ne_eq, Bool.not_eq_true', Bool.not_eq_false'] at *)
    all_goals (try (exfalso; omega))
    · refine ⟨k + 1, r / base, _, acc ++ [r % base], _, by omega, by omega, rfl, rfl, by simp, Int.ediv_nonneg hr (by omega), hmd, by simp; omega, ?_⟩
      intro x hx'
      rcases List.mem_append.mp hx' with hx' | hx'
      · exact hx x hx'
      · cases List.mem_singleton.mp hx'
        exact ⟨Int.emod_nonneg _ (by omega), Int.emod_lt_of_pos _ (by omega)⟩
    · refine ⟨k + 1, r, _, acc ++ [(st * st + 48271 * st + k + 1) % 2305843009213693951 / 4096 % base], _, by omega, by omega, rfl, rfl, by simp, hr, hmd, by simp; omega, ?_⟩
      intro x hx'
      rcases List.mem_append.mp hx' with hx' | hx'
      · exact hx x hx'
      · cases List.mem_singleton.mp hx'
        exact ⟨Int.emod_nonneg _ (by omega), Int.emod_lt_of_pos _ (by omega)⟩
    · exact ⟨k + 1, r, _, acc, _, by omega, by omega, rfl, rfl, rfl, hr, hmd, by omega, hx⟩
  · rintro ρ S' ⟨k, r, st, acc, kk, hk0, hk, hl, rfl, rfl, hr, hst, ha, hx⟩
    have hk : k = many + 3 := by
      rcases Int.lt_or_le k (many + 3) with h | h
      · rw [rangeD_cons h] at hl; cases hl
      · omega
    subst hk
    repeat' (first
    | with_reducible refine rp_var (by with_unfolding_all rfl) ?_
    | with_reducible refine rp_lit ?_
    | with_reducible refine rp_glb ?_
    | with_reducible refine rp_bin ?_
    | with_reducible refine rp_cmp ?_
    | with_reducible refine rp_cons ?_
    | with_reducible refine rp_nil ?_
    | with_reducible refine rp_idx ?_
    | with_reducible refine rp_call ?_
    | with_reducible refine rp_bi ?_
    | with_reducible refine rp_fz ?_
    | with_reducible refine rp_and ?_
    | with_reducible refine rp_or ?_
    | with_reducible refine rp_not ?_
    | with_reducible refine rp_ifT ?_
    | with_reducible refine rp_slc ?_
    | with_reducible refine rp_p0 ?_
    | with_reducible refine rp_p1 ?_
    | with_reducible refine rp_tup ?_
    | with_reducible refine rp_lst ?_
    | with_reducible refine rp_isi ?_
    | with_reducible refine rp_isit ?_
    | with_reducible refine rp_mth ?_
    | with_reducible refine rp_cmp2 ?_
    | with_reducible refine rp_neg ?_
    | with_reducible refine rp_t0 ?_
    | with_reducible refine rp_t1 ?_
    | with_reducible refine rp_lc ?_
    | with_reducible refine rp_lcL ?_
    | with_reducible refine rp_lstL ?_
    | with_reducible refine rp_catL ?_
    | with_reducible refine rp_listL ?_
    | with_reducible refine rp_of ?_
    | with_reducible refine rp_r1 ?_
    | with_reducible refine rp_r2 ?_
    | with_reducible refine rp_enum ?_
    | with_reducible refine rp_zip ?_
    | with_reducible refine op_nil ?_
    | with_reducible refine op_norm (by simp only [List.set_cons_succ, List.set_cons_zero, List.map_cons, List.map_nil, List.cons_append, List.nil_append]; rfl) (op_cons ?_)
    | with_reducible refine op_cons ?_
    | with_reducible refine op_asg ?_
    | with_reducible refine op_ifT ?_
    | with_reducible refine rt_and ?_
    | with_reducible refine rt_or ?_
    | with_reducible refine rt_not ?_
    | with_reducible refine rt_of ?_
    | with_reducible refine op_ret ?_
    | with_reducible refine op_new ?_
    | with_reducible refine op_app (by with_unfolding_all rfl) (by first | exact st_get | exact st_get2) ?_
    | with_reducible refine op_aug (by with_unfolding_all rfl) (by decide) ?_
    | with_reducible refine op_for ?_
    | with_reducible refine op_par ?_
    | with_reducible refine op_tp ?_
    | with_reducible refine op_seti (by with_unfolding_all rfl) ?_
    | with_reducible refine op_expr ?_
    | with_reducible refine op_doc ?_
    | with_reducible refine op_pass ?_
    | with_reducible refine op_retN ?_
    | with_reducible refine fin0 ?_
    | with_reducible refine fin1 ?_
    | with_reducible refine fino1 ?_
    | with_reducible refine fin2 ?_
    | refine ⟨_, _, _, _, rfl, st_get, lt_sz (by first | omega | (simp only [List.length_map, List.length_append, List.length_cons, List.length_nil]; omega)), st_set, ?_⟩
    | refine ⟨_, rfl, rngOk_in (by omega) (by omega), ?_⟩
    | refine ⟨_, src_live, ?_⟩
    | refine ⟨_, bi_live rfl, ?_⟩
    | (refine ⟨_, rfl, fun h => ?_, fun h => ?_⟩ <;> try (exact absurd h (by decide)))
    | refine ⟨_, rfl, ?_⟩
    | refine ⟨_, if_pos (by first | assumption | omega), ?_⟩
    | refine ⟨_, _, rfl, le_sz rfl, ?_⟩
    | refine ⟨_, _, rfl, rfl, ?_⟩
    | refine ⟨_, _, rfl, if_pos (by first | assumption | omega), ?_⟩
    | refine ⟨_, rfl, rfl, ?_⟩
    | refine ⟨rfl, ?_⟩
    | exact rfl
    | dsimp only)
    exact ⟨by omega, hx⟩
end M

/-! names of the laws' grounds -/
namespace M
open PySem PySem.Spec PyProof.Rows L2

/-! ### data that can be compared -/
def Ok (k : Nat) (d : D) : Prop := (toPy d).canLay0 = true ∧ (toPy d).depth ≤ k
theorem Ok.okD {k : Nat} {d : D} (h : Ok k d) (hk : k ≤ 64) : okD d = true := by
  unfold M.okD SeqAt.shaped
  rw [h.1, Bool.true_and]
  exact decide_eq_true (Nat.le_trans h.2 hk)
theorem Ok.non {k : Nat} : Ok k .non := ⟨by simp [toPy, PyData.canLay0], by simp [toPy, PyData.depth]⟩
theorem Ok.bl {k : Nat} (b : Bool) : Ok k (.bl b) := ⟨by simp [toPy, PyData.canLay0], by simp [toPy, PyData.depth]⟩
theorem Ok.int {k : Nat} (b : Int) : Ok k (.int b) := ⟨by simp [toPy, PyData.canLay0], by simp [toPy, PyData.depth]⟩
theorem Ok.str {k : Nat} {x : Str} (h : PyData.strOk x = true) : Ok k (.str x) := ⟨by simpa [toPy, PyData.canLay0] using h, by simp [toPy, PyData.depth]⟩
theorem oks {k : Nat} : ∀ {xs : List D}, (∀ x ∈ xs, Ok k x) → PyData.canLayAll0 (toPys xs) = true ∧ PyData.depthAll (toPys xs) ≤ k
  | [], _ => ⟨by simp [toPys, PyData.canLayAll0], by simp [toPys, PyData.depthAll]⟩
  | x :: xs, h => by
    have h1 := h x List.mem_cons_self
    have h2 := oks (k := k) (xs := xs) fun y hy => h y (List.mem_cons_of_mem _ hy)
    refine ⟨by simp only [toPys, PyData.canLayAll0, h1.1, h2.1, Bool.and_self], ?_⟩
    simp only [toPys, PyData.depthAll]
    have := h1.2
    have := h2.2
    omega
theorem Ok.lst {k : Nat} {xs : List D} (h : ∀ x ∈ xs, Ok k x) : Ok (k + 1) (.lst xs) := by
  have := oks h
  exact ⟨by simpa only [toPy, PyData.canLay0] using this.1, by simpa only [toPy, PyData.depth, Nat.add_le_add_iff_right] using this.2⟩
theorem Ok.tup {k : Nat} {xs : List D} (h : ∀ x ∈ xs, Ok k x) : Ok (k + 1) (.tup xs) := by
  have := oks h
  exact ⟨by simpa only [toPy, PyData.canLay0] using this.1, by simpa only [toPy, PyData.depth, Nat.add_le_add_iff_right] using this.2⟩
theorem Ok.mono {k j : Nat} {d : D} (h : Ok k d) (hk : k ≤ j) : Ok j d := ⟨h.1, Nat.le_trans h.2 hk⟩

/-! ### texts -/
abbrev LTR : Str := "abcdefghijklmnopqrstuvwxyz"
abbrev BAR : Str := "rows view where keep named pairs both less count seal and or not mine empty loud yes has"
def barred : List Str := ["rows", "view", "where", "keep", "named", "pairs", "both", "less", "count", "seal", "and", "or", "not", "mine", "empty", "loud", "yes", "has"]
theorem split_bar : Txt.split BAR " " = barred := by decide +kernel
theorem ltr_list : LTR.cps.toList = (List.range 26).map (97 + ·) := by decide +kernel
theorem len_list (x : Str) : x.length = x.cps.toList.length := by simp [Str.length]
theorem app_list (x y : Str) : (x ++ y).cps.toList = x.cps.toList ++ y.cps.toList := by
  show (Str.append x y).cps.toList = _
  simp [Str.append]
theorem str_ext {x y : Str} (h : x.cps.toList = y.cps.toList) : x = y := by
  cases x; cases y
  simp only [Str.mk.injEq]
  exact Array.toList_inj.mp h
/-- letters alone -/
def Lw (w : Str) : Prop := ∀ c ∈ w.cps.toList, 97 ≤ c ∧ c ≤ 122
theorem Lw.ok {w : Str} (h : Lw w) : PyData.strOk w = true := by
  unfold PyData.strOk
  rw [Array.all_eq_true]
  intro i hi
  have := h (w.cps[i]) (by simp)
  simp only [decide_eq_true_eq]
  omega
theorem ltr_at {j : Int} (h0 : 0 ≤ j) (h1 : j < 26) : idxD (.str LTR) (.int j) = some (.str ⟨#[97 + j.toNat]⟩) := by
  obtain ⟨k, rfl⟩ := Int.eq_ofNat_of_zero_le h0
  have hk : k < 26 := by omega
  have e : atI LTR.cps.toList ((k : Nat) : Int) = some (97 + k) := by
    apply L2.atI_nat
    rw [ltr_list]
    simp [hk]
  have hs : LTR.length ≤ sizeLine := by decide +kernel
  simp only [idxD, hs, if_true, e]
  rfl
theorem cut6 (w : Str) : (cutS w none (some 6)).cps.toList = w.cps.toList.take 6 := by
  unfold cutS
  simp only [HT.sIx]
  rw [if_neg (by decide)]
  simp only [List.drop_zero, Nat.sub_zero, len_list]
  show List.take (min 6 _) _ = _
  rw [List.take_eq_take_iff]
  omega
theorem nodup_le {α : Type} [DecidableEq α] : ∀ {l ts : List α}, l.Nodup → (∀ x ∈ l, x ∈ ts) → l.length ≤ ts.length
  | [], _, _, _ => Nat.zero_le _
  | x :: l, ts, hn, hs => by
    obtain ⟨h1, h2⟩ := List.nodup_cons.mp hn
    have hx : x ∈ ts := hs x List.mem_cons_self
    have := nodup_le (ts := ts.erase x) h2 fun y hy => (List.mem_erase_of_ne (fun (e : y = x) => h1 (e ▸ hy))).mpr (hs y (List.mem_cons_of_mem _ hy))
    rw [List.length_erase_of_mem hx] at this
    have : 0 < ts.length := List.length_pos_of_mem hx
    simp only [List.length_cons]
    omega
structure NameOk (w : Str) : Prop where
  pos : 1 ≤ w.length
  le : w.length ≤ 8
  let_ : Lw w
  bar : w ∉ barred
/-- the words that are tried -/
def waysOf (w : Str) : List Str := w :: (LTR.cps.toList.map fun c => cutS w none (some 6) ++ (⟨#[c]⟩ : Str) ++ ("z" : Str))
theorem bar_z : ∀ b ∈ barred, b.cps.toList.getLast? ≠ some 122 := by decide +kernel
theorem ways_free (w : Str) (ts : List Str) (hl : ts.length ≤ 20) : ∃ x ∈ waysOf w, x ∉ ts ∧ x ∉ barred := by
  apply Classical.byContradiction
  intro hno
  have hall : ∀ x ∈ (LTR.cps.toList.map fun c => cutS w none (some 6) ++ (⟨#[c]⟩ : Str) ++ ("z" : Str)), x ∈ ts := by
    intro x hx
    apply Classical.byContradiction
    intro hx'
    refine hno ⟨x, List.mem_cons_of_mem _ hx, hx', fun hb => bar_z x hb ?_⟩
    obtain ⟨c, _, rfl⟩ := List.mem_map.mp hx
    rw [app_list]
    rw [List.getLast?_append]
    rfl
  have hn : (LTR.cps.toList.map fun c => cutS w none (some 6) ++ (⟨#[c]⟩ : Str) ++ ("z" : Str)).Nodup := by
    have h0 : LTR.cps.toList.Nodup := by rw [ltr_list]; decide +kernel
    refine List.pairwise_map.mpr (List.Pairwise.imp ?_ h0)
    intro a b hne e
    have := congrArg (fun s : Str => s.cps.toList) e
    simp only [app_list] at this
    exact hne (by simpa using this)
  have := nodup_le hn hall
  rw [List.length_map, ltr_list] at this
  simp at this
  omega
theorem lw_app {x y : Str} (hx : Lw x) (hy : Lw y) : Lw (x ++ y) := by
  intro c hc
  rw [app_list] at hc
  rcases List.mem_append.mp hc with h | h
  · exact hx c h
  · exact hy c h
theorem ways_ok {w : Str} (hw : Lw w) (h1 : 1 ≤ w.length) (h8 : w.length ≤ 8) : ∀ x ∈ waysOf w, 1 ≤ x.length ∧ x.length ≤ 8 ∧ Lw x := by
  intro x hx
  rcases List.mem_cons.mp hx with rfl | hx
  · exact ⟨h1, h8, hw⟩
  · obtain ⟨c, hc, rfl⟩ := List.mem_map.mp hx
    have hz : Lw ("z" : Str) := by intro c hc; revert c; decide +kernel
    have hzl : ("z" : Str).cps.toList.length = 1 := by decide +kernel
    rw [ltr_list] at hc
    obtain ⟨k, hk, rfl⟩ := List.mem_map.mp hc
    have hk := List.mem_range.mp hk
    refine ⟨?_, ?_, lw_app (lw_app ?_ ?_) hz⟩
    · rw [len_list, app_list, List.length_append, hzl]; omega
    · rw [len_list, app_list, app_list, List.length_append, List.length_append, hzl, cut6, List.length_take]
      simp
      omega
    · intro c hc
      rw [cut6] at hc
      exact hw c (List.mem_of_mem_take hc)
    · intro c hc
      simp at hc
      subst hc
      omega
theorem any_strs (w : Str) : ∀ ts : List Str, ((ts.map D.str).any fun z => deq z (.str w)) = decide (w ∈ ts)
  | [] => rfl
  | t :: ts => by
    rw [List.map_cons, List.any_cons, any_strs w ts, deq]
    by_cases h : t = w
    · simp [h]
    · have h' : ¬ w = t := fun e => h e.symm
      simp [h, h']
theorem in_strs {w : Str} {ts : List Str} (hw : PyData.strOk w = true) (ht : ∀ t ∈ ts, PyData.strOk t = true) : inD (.str w) (.lst (ts.map .str)) = some (decide (w ∈ ts)) := by
  have h1 : okD (.str w) = true := (Ok.str (k := 0) hw).okD (by omega)
  have h2 : okD (.lst (ts.map .str)) = true := (Ok.lst (k := 0) fun x hx => by
    obtain ⟨t, ht', rfl⟩ := List.mem_map.mp hx
    exact Ok.str (ht t ht')).okD (by omega)
  simp only [inD, h1, h2, Bool.and_self, if_true, any_strs]
theorem bar_ok : ∀ t ∈ barred, PyData.strOk t = true := by decide +kernel
def sget (ss : List Int) (j : Nat) : Int := ss.getD j 0
theorem at_int {ss : List Int} {j : Nat} (h : j < ss.length) : idxD (.lst (ss.map .int)) (.int (j : Int)) = some (.int (sget ss j)) := by
  simp only [idxD]
  apply L2.atI_nat
  simp [sget, h]
theorem sget_mem {ss : List Int} {j : Nat} (h : j < ss.length) : sget ss j ∈ ss := by
  unfold sget
  rw [List.getD_eq_getElem?_getD, List.getElem?_eq_getElem h]
  exact List.getElem_mem h
theorem name_ok {T : List Fn} {i : Nat} (hT : T[i]? = some f__law_name) (n : Nat) (ss : List Int) (hs : 5 ≤ ss.length) (hb : ∀ x ∈ ss, 0 ≤ x ∧ x < 1000) (ts : List Str) (hl : ts.length ≤ 20) (ht : ∀ t ∈ ts, PyData.strOk t = true) (S : St') :
    RP (FT T (n + 1) i [.t (.lst (ss.map .int)), .t (.lst (ts.map .str))] S) (fun v S' => S' = S ∧ ∃ w : Str, v = .t (.str w) ∧ NameOk w ∧ w ∉ ts) noE := by
  have g0 : idxD (.lst (ss.map .int)) (.int 0) = some (.int (sget ss 0)) := at_int (j := 0) (by omega)
  have g1 : idxD (.lst (ss.map .int)) (.int 1) = some (.int (sget ss 1)) := at_int (j := 1) (by omega)
  have g2 : idxD (.lst (ss.map .int)) (.int 2) = some (.int (sget ss 2)) := at_int (j := 2) (by omega)
  have g3 : idxD (.lst (ss.map .int)) (.int 3) = some (.int (sget ss 3)) := at_int (j := 3) (by omega)
  have g4 : idxD (.lst (ss.map .int)) (.int 4) = some (.int (sget ss 4)) := at_int (j := 4) (by omega)
  have b0 := hb _ (sget_mem (ss := ss) (j := 0) (by omega))
  have b1 := hb _ (sget_mem (ss := ss) (j := 1) (by omega))
  have b2 := hb _ (sget_mem (ss := ss) (j := 2) (by omega))
  have b3 := hb _ (sget_mem (ss := ss) (j := 3) (by omega))
  have b4 := hb _ (sget_mem (ss := ss) (j := 4) (by omega))
  refine rp_fn hT rfl rfl ?_
  simp only [f__law_name, pad]
  repeat' (first
    | with_reducible refine rp_var (by with_unfolding_all rfl) ?_
    | refine ⟨_, g0, ?_⟩
    | refine ⟨_, g1, ?_⟩
    | refine ⟨_, g2, ?_⟩
    | refine ⟨_, g3, ?_⟩
    | refine ⟨_, g4, ?_⟩
    | with_reducible refine rp_lit ?_
    | with_reducible refine rp_glb ?_
    | with_reducible refine rp_bin ?_
    | with_reducible refine rp_cmp ?_
    | with_reducible refine rp_cons ?_
    | with_reducible refine rp_nil ?_
    | with_reducible refine rp_idx ?_
    | with_reducible refine rp_call ?_
    | with_reducible refine rp_bi ?_
    | with_reducible refine rp_fz ?_
    | with_reducible refine rp_and ?_
    | with_reducible refine rp_or ?_
    | with_reducible refine rp_not ?_
    | with_reducible refine rp_ifT ?_
    | with_reducible refine rp_slc ?_
    | with_reducible refine rp_p0 ?_
    | with_reducible refine rp_p1 ?_
    | with_reducible refine rp_tup ?_
    | with_reducible refine rp_lst ?_
    | with_reducible refine rp_isi ?_
    | with_reducible refine rp_isit ?_
    | with_reducible refine rp_mth ?_
    | with_reducible refine rp_cmp2 ?_
    | with_reducible refine rp_neg ?_
    | with_reducible refine rp_t0 ?_
    | with_reducible refine rp_t1 ?_
    | with_reducible refine rp_lc ?_
    | with_reducible refine rp_lcL ?_
    | with_reducible refine rp_lstL ?_
    | with_reducible refine rp_catL ?_
    | with_reducible refine rp_listL ?_
    | with_reducible refine rp_of ?_
    | with_reducible refine rp_r1 ?_
    | with_reducible refine rp_r2 ?_
    | with_reducible refine rp_enum ?_
    | with_reducible refine rp_zip ?_
    | with_reducible refine op_nil ?_
    | with_reducible refine op_norm (by simp only [List.set_cons_succ, List.set_cons_zero, List.map_cons, List.map_nil, List.cons_append, List.nil_append]; rfl) (op_cons ?_)
    | with_reducible refine op_cons ?_
    | with_reducible refine op_asg ?_
    | with_reducible refine op_ifT ?_
    | with_reducible refine rt_and ?_
    | with_reducible refine rt_or ?_
    | with_reducible refine rt_not ?_
    | with_reducible refine rt_of ?_
    | with_reducible refine op_ret ?_
    | with_reducible refine op_new ?_
    | with_reducible refine op_app (by with_unfolding_all rfl) (by first | exact st_get | exact st_get2) ?_
    | with_reducible refine op_aug (by with_unfolding_all rfl) (by decide) ?_
    | with_reducible refine op_for ?_
    | with_reducible refine op_par ?_
    | with_reducible refine op_tp ?_
    | with_reducible refine op_seti (by with_unfolding_all rfl) ?_
    | with_reducible refine op_expr ?_
    | with_reducible refine op_doc ?_
    | with_reducible refine op_pass ?_
    | with_reducible refine op_retN ?_
    | with_reducible refine fin0 ?_
    | with_reducible refine fin1 ?_
    | with_reducible refine fino1 ?_
    | with_reducible refine fin2 ?_
    | refine ⟨_, _, _, _, rfl, st_get, lt_sz (by first | omega | (simp only [List.length_map, List.length_append, List.length_cons, List.length_nil]; omega)), st_set, ?_⟩
    | refine ⟨_, rfl, rngOk_in (by omega) (by omega), ?_⟩
    | refine ⟨_, src_live, ?_⟩
    | refine ⟨_, bi_live rfl, ?_⟩
    | (refine ⟨_, rfl, fun h => ?_, fun h => ?_⟩ <;> try (exact absurd h (by decide)))
    | refine ⟨_, rfl, ?_⟩
    | refine ⟨_, if_pos (by first | assumption | omega), ?_⟩
    | refine ⟨_, _, rfl, le_sz rfl, ?_⟩
    | refine ⟨_, _, rfl, rfl, ?_⟩
    | refine ⟨_, _, rfl, if_pos (by first | assumption | omega), ?_⟩
    | refine ⟨_, rfl, rfl, ?_⟩
    | refine ⟨rfl, ?_⟩
    | exact rfl
    | dsimp only)
  refine op_fix (fun l ρ S' => ∃ (k sz : Int) (w : Str) (kk : Option SV), 0 ≤ k ∧ k ≤ 1 + sget ss 0 % 8 ∧ l = rangeD k (1 + sget ss 0 % 8) ∧ ρ = [some (.t (.lst (ss.map .int))), some (.t (.lst (ts.map .str))), some (.t (.str LTR)), some (.t (.int sz)), some (.t (.str w)), kk, none, none, none, none] ∧ S' = S ∧ 0 ≤ sz ∧ Lw w ∧ (w.length : Int) = k) ?_ ?_ ?_
  · exact ⟨0, _, "", none, by omega, by omega, rfl, rfl, rfl, by omega, by intro c hc; revert c; decide +kernel, by decide +kernel⟩
  · rintro d ds ρ S' ⟨k, sz, w, kk, hk0, hk, hl, rfl, rfl, hsz, hw, hwl⟩
    have hlt : k < 1 + sget ss 0 % 8 := by
      rcases Int.lt_or_le k (1 + sget ss 0 % 8) with h | h
      · exact h
      · rw [rangeD_nil h] at hl; cases hl
    rw [rangeD_cons hlt] at hl
    cases hl
    have hm : 0 ≤ sz % 26 ∧ sz % 26 < 26 := ⟨by omega, by omega⟩
    have h26 := ltr_at hm.1 hm.2
    have hadd : w.length + (⟨#[97 + (sz % 26).toNat]⟩ : Str).length ≤ sizeLine := le_sz' (by show w.length + 1 ≤ 16777216; omega)
    refine ⟨_, rfl, ?_⟩
    repeat' (first
    | with_reducible refine rp_var (by with_unfolding_all rfl) ?_
    | refine ⟨_, h26, ?_⟩
    | refine ⟨_, if_pos hadd, ?_⟩
    | with_reducible refine rp_lit ?_
    | with_reducible refine rp_glb ?_
    | with_reducible refine rp_bin ?_
    | with_reducible refine rp_cmp ?_
    | with_reducible refine rp_cons ?_
    | with_reducible refine rp_nil ?_
    | with_reducible refine rp_idx ?_
    | with_reducible refine rp_call ?_
    | with_reducible refine rp_bi ?_
    | with_reducible refine rp_fz ?_
    | with_reducible refine rp_and ?_
    | with_reducible refine rp_or ?_
    | with_reducible refine rp_not ?_
    | with_reducible refine rp_ifT ?_
    | with_reducible refine rp_slc ?_
    | with_reducible refine rp_p0 ?_
    | with_reducible refine rp_p1 ?_
    | with_reducible refine rp_tup ?_
    | with_reducible refine rp_lst ?_
    | with_reducible refine rp_isi ?_
    | with_reducible refine rp_isit ?_
    | with_reducible refine rp_mth ?_
    | with_reducible refine rp_cmp2 ?_
    | with_reducible refine rp_neg ?_
    | with_reducible refine rp_t0 ?_
    | with_reducible refine rp_t1 ?_
    | with_reducible refine rp_lc ?_
    | with_reducible refine rp_lcL ?_
    | with_reducible refine rp_lstL ?_
    | with_reducible refine rp_catL ?_
    | with_reducible refine rp_listL ?_
    | with_reducible refine rp_of ?_
    | with_reducible refine rp_r1 ?_
    | with_reducible refine rp_r2 ?_
    | with_reducible refine rp_enum ?_
    | with_reducible refine rp_zip ?_
    | with_reducible refine op_nil ?_
    | with_reducible refine op_norm (by simp only [List.set_cons_succ, List.set_cons_zero, List.map_cons, List.map_nil, List.cons_append, List.nil_append]; rfl) (op_cons ?_)
    | with_reducible refine op_cons ?_
    | with_reducible refine op_asg ?_
    | with_reducible refine op_ifT ?_
    | with_reducible refine rt_and ?_
    | with_reducible refine rt_or ?_
    | with_reducible refine rt_not ?_
    | with_reducible refine rt_of ?_
    | with_reducible refine op_ret ?_
    | with_reducible refine op_new ?_
    | with_reducible refine op_app (by with_unfolding_all rfl) (by first | exact st_get | exact st_get2) ?_
    | with_reducible refine op_aug (by with_unfolding_all rfl) (by decide) ?_
    | with_reducible refine op_for ?_
    | with_reducible refine op_par ?_
    | with_reducible refine op_tp ?_
    | with_reducible refine op_seti (by with_unfolding_all rfl) ?_
    | with_reducible refine op_expr ?_
    | with_reducible refine op_doc ?_
    | with_reducible refine op_pass ?_
    | with_reducible refine op_retN ?_
    | with_reducible refine fin0 ?_
    | with_reducible refine fin1 ?_
    | with_reducible refine fino1 ?_
    | with_reducible refine fin2 ?_
    | refine ⟨_, _, _, _, rfl, st_get, lt_sz (by first | omega | (simp only [List.length_map, List.length_append, List.length_cons, List.length_nil]; omega)), st_set, ?_⟩
    | refine ⟨_, rfl, rngOk_in (by omega) (by omega), ?_⟩
    | refine ⟨_, src_live, ?_⟩
    | refine ⟨_, bi_live rfl, ?_⟩
    | (refine ⟨_, rfl, fun h => ?_, fun h => ?_⟩ <;> try (exact absurd h (by decide)))
    | refine ⟨_, rfl, ?_⟩
    | refine ⟨_, if_pos (by first | assumption | omega), ?_⟩
    | refine ⟨_, _, rfl, le_sz rfl, ?_⟩
    | refine ⟨_, _, rfl, rfl, ?_⟩
    | refine ⟨_, _, rfl, if_pos (by first | assumption | omega), ?_⟩
    | refine ⟨_, rfl, rfl, ?_⟩
    | refine ⟨rfl, ?_⟩
    | exact rfl
    | dsimp only)
    refine ⟨k + 1, _, _, _, by omega, by omega, rfl, rfl, rfl, Int.ediv_nonneg hsz (by omega), lw_app hw ?_, ?_⟩
    · intro c hc
      simp at hc
      subst hc
      omega
    · rw [len_list, app_list, List.length_append, ← len_list]
      simp
      omega
  · rintro ρ S' ⟨k, sz, w, kk, hk0, hk, hl, rfl, rfl, hsz, hw, hwl⟩
    have hk : k = 1 + sget ss 0 % 8 := by
      rcases Int.lt_or_le k (1 + sget ss 0 % 8) with h | h
      · rw [rangeD_cons h] at hl; cases hl
      · omega
    have hw1 : 1 ≤ w.length := by omega
    have hw8 : w.length ≤ 8 := by omega
    repeat' (first
    | with_reducible refine rp_var (by with_unfolding_all rfl) ?_
    | with_reducible refine rp_lit ?_
    | with_reducible refine rp_glb ?_
    | with_reducible refine rp_bin ?_
    | with_reducible refine rp_cmp ?_
    | with_reducible refine rp_cons ?_
    | with_reducible refine rp_nil ?_
    | with_reducible refine rp_idx ?_
    | with_reducible refine rp_call ?_
    | with_reducible refine rp_bi ?_
    | with_reducible refine rp_fz ?_
    | with_reducible refine rp_and ?_
    | with_reducible refine rp_or ?_
    | with_reducible refine rp_not ?_
    | with_reducible refine rp_ifT ?_
    | with_reducible refine rp_slc ?_
    | with_reducible refine rp_p0 ?_
    | with_reducible refine rp_p1 ?_
    | with_reducible refine rp_tup ?_
    | with_reducible refine rp_lst ?_
    | with_reducible refine rp_isi ?_
    | with_reducible refine rp_isit ?_
    | with_reducible refine rp_mth ?_
    | with_reducible refine rp_cmp2 ?_
    | with_reducible refine rp_neg ?_
    | with_reducible refine rp_t0 ?_
    | with_reducible refine rp_t1 ?_
    | with_reducible refine rp_lc ?_
    | with_reducible refine rp_lcL ?_
    | with_reducible refine rp_lstL ?_
    | with_reducible refine rp_catL ?_
    | with_reducible refine rp_listL ?_
    | with_reducible refine rp_of ?_
    | with_reducible refine rp_r1 ?_
    | with_reducible refine rp_r2 ?_
    | with_reducible refine rp_enum ?_
    | with_reducible refine rp_zip ?_
    | with_reducible refine op_nil ?_
    | with_reducible refine op_norm (by simp only [List.set_cons_succ, List.set_cons_zero, List.map_cons, List.map_nil, List.cons_append, List.nil_append]; rfl) (op_cons ?_)
    | with_reducible refine op_cons ?_
    | with_reducible refine op_asg ?_
    | with_reducible refine op_ifT ?_
    | with_reducible refine rt_and ?_
    | with_reducible refine rt_or ?_
    | with_reducible refine rt_not ?_
    | with_reducible refine rt_of ?_
    | with_reducible refine op_ret ?_
    | with_reducible refine op_new ?_
    | with_reducible refine op_app (by with_unfolding_all rfl) (by first | exact st_get | exact st_get2) ?_
    | with_reducible refine op_aug (by with_unfolding_all rfl) (by decide) ?_
    | with_reducible refine op_for ?_
    | with_reducible refine op_par ?_
    | with_reducible refine op_tp ?_
    | with_reducible refine op_seti (by with_unfolding_all rfl) ?_
    | with_reducible refine op_expr ?_
    | with_reducible refine op_doc ?_
    | with_reducible refine op_pass ?_
    | with_reducible refine op_retN ?_
    | with_reducible refine fin0 ?_
    | with_reducible refine fin1 ?_
    | with_reducible refine fino1 ?_
    | with_reducible refine fin2 ?_
    | refine ⟨_, _, _, _, rfl, st_get, lt_sz (by first | omega | (simp only [List.length_map, List.length_append, List.length_cons, List.length_nil]; omega)), st_set, ?_⟩
    | refine ⟨_, rfl, rngOk_in (by omega) (by omega), ?_⟩
    | refine ⟨_, src_live, ?_⟩
    | refine ⟨_, bi_live rfl, ?_⟩
    | (refine ⟨_, rfl, fun h => ?_, fun h => ?_⟩ <;> try (exact absurd h (by decide)))
    | refine ⟨_, rfl, ?_⟩
    | refine ⟨_, if_pos (by first | assumption | omega), ?_⟩
    | refine ⟨_, _, rfl, le_sz rfl, ?_⟩
    | refine ⟨_, _, rfl, rfl, ?_⟩
    | refine ⟨_, _, rfl, if_pos (by first | assumption | omega), ?_⟩
    | refine ⟨_, rfl, rfl, ?_⟩
    | refine ⟨rfl, ?_⟩
    | exact rfl
    | dsimp only)
    have hs : w.length ≤ sizeLine := le_sz' (by omega)
    have hc6 : (cutS w none (some 6)).length ≤ 6 := by rw [len_list, cut6, List.length_take]; omega
    refine rp_lcM (fun c => D.str ⟨#[c]⟩) (fun c => .str (cutS w none (some 6) ++ (⟨#[c]⟩ : Str) ++ ("z" : Str))) (by rw [ltr_list]; simp) (fun c hc acc => ?_) ?_
    · have ha1 : (cutS w none (some 6)).length + (⟨#[c]⟩ : Str).length ≤ sizeLine := le_sz' (by show _ + 1 ≤ _; omega)
      have ha2 : (cutS w none (some 6) ++ (⟨#[c]⟩ : Str)).length + ("z" : Str).length ≤ sizeLine := le_sz' (by
        rw [len_list, app_list, List.length_append, ← len_list]
        show _ + 1 + 1 ≤ _; omega)
      refine ⟨_, rfl, ?_⟩
      repeat' (first
    | with_reducible refine rp_var (by with_unfolding_all rfl) ?_
    | refine ⟨_, if_pos hs, ?_⟩
    | refine ⟨_, if_pos ha1, ?_⟩
    | refine ⟨_, if_pos ha2, ?_⟩
    | with_reducible refine rp_lit ?_
    | with_reducible refine rp_glb ?_
    | with_reducible refine rp_bin ?_
    | with_reducible refine rp_cmp ?_
    | with_reducible refine rp_cons ?_
    | with_reducible refine rp_nil ?_
    | with_reducible refine rp_idx ?_
    | with_reducible refine rp_call ?_
    | with_reducible refine rp_bi ?_
    | with_reducible refine rp_fz ?_
    | with_reducible refine rp_and ?_
    | with_reducible refine rp_or ?_
    | with_reducible refine rp_not ?_
    | with_reducible refine rp_ifT ?_
    | with_reducible refine rp_slc ?_
    | with_reducible refine rp_p0 ?_
    | with_reducible refine rp_p1 ?_
    | with_reducible refine rp_tup ?_
    | with_reducible refine rp_lst ?_
    | with_reducible refine rp_isi ?_
    | with_reducible refine rp_isit ?_
    | with_reducible refine rp_mth ?_
    | with_reducible refine rp_cmp2 ?_
    | with_reducible refine rp_neg ?_
    | with_reducible refine rp_t0 ?_
    | with_reducible refine rp_t1 ?_
    | with_reducible refine rp_lc ?_
    | with_reducible refine rp_lcL ?_
    | with_reducible refine rp_lstL ?_
    | with_reducible refine rp_catL ?_
    | with_reducible refine rp_listL ?_
    | with_reducible refine rp_of ?_
    | with_reducible refine rp_r1 ?_
    | with_reducible refine rp_r2 ?_
    | with_reducible refine rp_enum ?_
    | with_reducible refine rp_zip ?_
    | with_reducible refine op_nil ?_
    | with_reducible refine op_norm (by simp only [List.set_cons_succ, List.set_cons_zero, List.map_cons, List.map_nil, List.cons_append, List.nil_append]; rfl) (op_cons ?_)
    | with_reducible refine op_cons ?_
    | with_reducible refine op_asg ?_
    | with_reducible refine op_ifT ?_
    | with_reducible refine rt_and ?_
    | with_reducible refine rt_or ?_
    | with_reducible refine rt_not ?_
    | with_reducible refine rt_of ?_
    | with_reducible refine op_ret ?_
    | with_reducible refine op_new ?_
    | with_reducible refine op_app (by with_unfolding_all rfl) (by first | exact st_get | exact st_get2) ?_
    | with_reducible refine op_aug (by with_unfolding_all rfl) (by decide) ?_
    | with_reducible refine op_for ?_
    | with_reducible refine op_par ?_
    | with_reducible refine op_tp ?_
    | with_reducible refine op_seti (by with_unfolding_all rfl) ?_
    | with_reducible refine op_expr ?_
    | with_reducible refine op_doc ?_
    | with_reducible refine op_pass ?_
    | with_reducible refine op_retN ?_
    | with_reducible refine fin0 ?_
    | with_reducible refine fin1 ?_
    | with_reducible refine fino1 ?_
    | with_reducible refine fin2 ?_
    | refine ⟨_, _, _, _, rfl, st_get, lt_sz (by first | omega | (simp only [List.length_map, List.length_append, List.length_cons, List.length_nil]; omega)), st_set, ?_⟩
    | refine ⟨_, rfl, rngOk_in (by omega) (by omega), ?_⟩
    | refine ⟨_, src_live, ?_⟩
    | refine ⟨_, bi_live rfl, ?_⟩
    | (refine ⟨_, rfl, fun h => ?_, fun h => ?_⟩ <;> try (exact absurd h (by decide)))
    | refine ⟨_, rfl, ?_⟩
    | refine ⟨_, if_pos (by first | assumption | omega), ?_⟩
    | refine ⟨_, _, rfl, le_sz rfl, ?_⟩
    | refine ⟨_, _, rfl, rfl, ?_⟩
    | refine ⟨_, _, rfl, if_pos (by first | assumption | omega), ?_⟩
    | refine ⟨_, rfl, rfl, ?_⟩
    | refine ⟨rfl, ?_⟩
    | exact rfl
    | dsimp only)
    · have e2 : bin2 .add S' (SV.t (.lst [.str w])) (SV.t (.lst (LTR.cps.toList.map fun c => .str (cutS w none (some 6) ++ (⟨#[c]⟩ : Str) ++ ("z" : Str))))) = some (.lst ((waysOf w).map .str)) := by
        simp only [bin2, peek, Option.bind_some, binD]
        rw [if_pos (by rw [List.length_map, ltr_list]; exact le_sz rfl), List.singleton_append, waysOf, List.map_cons, List.map_map]
        rfl
      have hlen : (waysOf w).length ≤ 16777216 := by
        unfold waysOf
        rw [List.length_cons, List.length_map, ltr_list]
        simp
      have hok := ways_ok hw hw1 hw8
      repeat' (first
    | with_reducible refine rp_var (by with_unfolding_all rfl) ?_
    | refine ⟨_, e2, ?_⟩
    | with_reducible refine rp_lit ?_
    | with_reducible refine rp_glb ?_
    | with_reducible refine rp_bin ?_
    | with_reducible refine rp_cmp ?_
    | with_reducible refine rp_cons ?_
    | with_reducible refine rp_nil ?_
    | with_reducible refine rp_idx ?_
    | with_reducible refine rp_call ?_
    | with_reducible refine rp_bi ?_
    | with_reducible refine rp_fz ?_
    | with_reducible refine rp_and ?_
    | with_reducible refine rp_or ?_
    | with_reducible refine rp_not ?_
    | with_reducible refine rp_ifT ?_
    | with_reducible refine rp_slc ?_
    | with_reducible refine rp_p0 ?_
    | with_reducible refine rp_p1 ?_
    | with_reducible refine rp_tup ?_
    | with_reducible refine rp_lst ?_
    | with_reducible refine rp_isi ?_
    | with_reducible refine rp_isit ?_
    | with_reducible refine rp_mth ?_
    | with_reducible refine rp_cmp2 ?_
    | with_reducible refine rp_neg ?_
    | with_reducible refine rp_t0 ?_
    | with_reducible refine rp_t1 ?_
    | with_reducible refine rp_lc ?_
    | with_reducible refine rp_lcL ?_
    | with_reducible refine rp_lstL ?_
    | with_reducible refine rp_catL ?_
    | with_reducible refine rp_listL ?_
    | with_reducible refine rp_of ?_
    | with_reducible refine rp_r1 ?_
    | with_reducible refine rp_r2 ?_
    | with_reducible refine rp_enum ?_
    | with_reducible refine rp_zip ?_
    | with_reducible refine op_nil ?_
    | with_reducible refine op_norm (by simp only [List.set_cons_succ, List.set_cons_zero, List.map_cons, List.map_nil, List.cons_append, List.nil_append]; rfl) (op_cons ?_)
    | with_reducible refine op_cons ?_
    | with_reducible refine op_asg ?_
    | with_reducible refine op_ifT ?_
    | with_reducible refine rt_and ?_
    | with_reducible refine rt_or ?_
    | with_reducible refine rt_not ?_
    | with_reducible refine rt_of ?_
    | with_reducible refine op_ret ?_
    | with_reducible refine op_new ?_
    | with_reducible refine op_app (by with_unfolding_all rfl) (by first | exact st_get | exact st_get2) ?_
    | with_reducible refine op_aug (by with_unfolding_all rfl) (by decide) ?_
    | with_reducible refine op_for ?_
    | with_reducible refine op_par ?_
    | with_reducible refine op_tp ?_
    | with_reducible refine op_seti (by with_unfolding_all rfl) ?_
    | with_reducible refine op_expr ?_
    | with_reducible refine op_doc ?_
    | with_reducible refine op_pass ?_
    | with_reducible refine op_retN ?_
    | with_reducible refine fin0 ?_
    | with_reducible refine fin1 ?_
    | with_reducible refine fino1 ?_
    | with_reducible refine fin2 ?_
    | refine ⟨_, _, _, _, rfl, st_get, lt_sz (by first | omega | (simp only [List.length_map, List.length_append, List.length_cons, List.length_nil]; omega)), st_set, ?_⟩
    | refine ⟨_, rfl, rngOk_in (by omega) (by omega), ?_⟩
    | refine ⟨_, src_live, ?_⟩
    | refine ⟨_, bi_live rfl, ?_⟩
    | (refine ⟨_, rfl, fun h => ?_, fun h => ?_⟩ <;> try (exact absurd h (by decide)))
    | refine ⟨_, rfl, ?_⟩
    | refine ⟨_, if_pos (by first | assumption | omega), ?_⟩
    | refine ⟨_, _, rfl, le_sz rfl, ?_⟩
    | refine ⟨_, _, rfl, rfl, ?_⟩
    | refine ⟨_, _, rfl, if_pos (by first | assumption | omega), ?_⟩
    | refine ⟨_, rfl, rfl, ?_⟩
    | refine ⟨rfl, ?_⟩
    | exact rfl
    | dsimp only)
      refine rp_lcF D.str (fun x => !decide (x ∈ ts) && !decide (x ∈ barred)) .str hlen (fun x hx acc => ?_) ?_
      · have hxo := hok x hx
        have n1 : cmpD .notin (.str x) (.lst (ts.map .str)) = some (!decide (x ∈ ts)) := by simp only [cmpD, in_strs hxo.2.2.ok ht, Option.map_some]
        have n2 : cmpD .notin (.str x) (.lst (barred.map .str)) = some (!decide (x ∈ barred)) := by simp only [cmpD, in_strs hxo.2.2.ok bar_ok, Option.map_some]
        have n3 : mthD .split (.str BAR) [.str " "] = some (.lst (barred.map .str)) := by
          simp only [mthD, split_bar]
          exact if_pos (by decide +kernel)
        refine ⟨_, rfl, ?_⟩
        repeat' (first
    | with_reducible refine rp_var (by with_unfolding_all rfl) ?_
    | refine ⟨_, n1, ?_⟩
    | refine ⟨_, n2, ?_⟩
    | refine ⟨_, n3, ?_⟩
    | with_reducible refine rp_lit ?_
    | with_reducible refine rp_glb ?_
    | with_reducible refine rp_bin ?_
    | with_reducible refine rp_cmp ?_
    | with_reducible refine rp_cons ?_
    | with_reducible refine rp_nil ?_
    | with_reducible refine rp_idx ?_
    | with_reducible refine rp_call ?_
    | with_reducible refine rp_bi ?_
    | with_reducible refine rp_fz ?_
    | with_reducible refine rp_and ?_
    | with_reducible refine rp_or ?_
    | with_reducible refine rp_not ?_
    | with_reducible refine rp_ifT ?_
    | with_reducible refine rp_slc ?_
    | with_reducible refine rp_p0 ?_
    | with_reducible refine rp_p1 ?_
    | with_reducible refine rp_tup ?_
    | with_reducible refine rp_lst ?_
    | with_reducible refine rp_isi ?_
    | with_reducible refine rp_isit ?_
    | with_reducible refine rp_mth ?_
    | with_reducible refine rp_cmp2 ?_
    | with_reducible refine rp_neg ?_
    | with_reducible refine rp_t0 ?_
    | with_reducible refine rp_t1 ?_
    | with_reducible refine rp_lc ?_
    | with_reducible refine rp_lcL ?_
    | with_reducible refine rp_lstL ?_
    | with_reducible refine rp_catL ?_
    | with_reducible refine rp_listL ?_
    | with_reducible refine rp_of ?_
    | with_reducible refine rp_r1 ?_
    | with_reducible refine rp_r2 ?_
    | with_reducible refine rp_enum ?_
    | with_reducible refine rp_zip ?_
    | with_reducible refine op_nil ?_
    | with_reducible refine op_norm (by simp only [List.set_cons_succ, List.set_cons_zero, List.map_cons, List.map_nil, List.cons_append, List.nil_append]; rfl) (op_cons ?_)
    | with_reducible refine op_cons ?_
    | with_reducible refine op_asg ?_
    | with_reducible refine op_ifT ?_
    | with_reducible refine rt_and ?_
    | with_reducible refine rt_or ?_
    | with_reducible refine rt_not ?_
    | with_reducible refine rt_of ?_
    | with_reducible refine op_ret ?_
    | with_reducible refine op_new ?_
    | with_reducible refine op_app (by with_unfolding_all rfl) (by first | exact st_get | exact st_get2) ?_
    | with_reducible refine op_aug (by with_unfolding_all rfl) (by decide) ?_
    | with_reducible refine op_for ?_
    | with_reducible refine op_par ?_
    | with_reducible refine op_tp ?_
    | with_reducible refine op_seti (by with_unfolding_all rfl) ?_
    | with_reducible refine op_expr ?_
    | with_reducible refine op_doc ?_
    | with_reducible refine op_pass ?_
    | with_reducible refine op_retN ?_
    | with_reducible refine fin0 ?_
    | with_reducible refine fin1 ?_
    | with_reducible refine fino1 ?_
    | with_reducible refine fin2 ?_
    | refine ⟨_, _, _, _, rfl, st_get, lt_sz (by first | omega | (simp only [List.length_map, List.length_append, List.length_cons, List.length_nil]; omega)), st_set, ?_⟩
    | refine ⟨_, rfl, rngOk_in (by omega) (by omega), ?_⟩
    | refine ⟨_, src_live, ?_⟩
    | refine ⟨_, bi_live rfl, ?_⟩
    | (refine ⟨_, rfl, fun h => ?_, fun h => ?_⟩ <;> try (exact absurd h (by decide)))
    | refine ⟨_, rfl, ?_⟩
    | refine ⟨_, if_pos (by first | assumption | omega), ?_⟩
    | refine ⟨_, _, rfl, le_sz rfl, ?_⟩
    | refine ⟨_, _, rfl, rfl, ?_⟩
    | refine ⟨_, _, rfl, if_pos (by first | assumption | omega), ?_⟩
    | refine ⟨_, rfl, rfl, ?_⟩
    | refine ⟨rfl, ?_⟩
    | exact rfl
    | dsimp only)
        · refine ⟨by rw [h, Bool.true_and], rfl, fun _ => ?_⟩
          repeat' (first
    | with_reducible refine rp_var (by with_unfolding_all rfl) ?_
    | with_reducible refine rp_lit ?_
    | with_reducible refine rp_glb ?_
    | with_reducible refine rp_bin ?_
    | with_reducible refine rp_cmp ?_
    | with_reducible refine rp_cons ?_
    | with_reducible refine rp_nil ?_
    | with_reducible refine rp_idx ?_
    | with_reducible refine rp_call ?_
    | with_reducible refine rp_bi ?_
    | with_reducible refine rp_fz ?_
    | with_reducible refine rp_and ?_
    | with_reducible refine rp_or ?_
    | with_reducible refine rp_not ?_
    | with_reducible refine rp_ifT ?_
    | with_reducible refine rp_slc ?_
    | with_reducible refine rp_p0 ?_
    | with_reducible refine rp_p1 ?_
    | with_reducible refine rp_tup ?_
    | with_reducible refine rp_lst ?_
    | with_reducible refine rp_isi ?_
    | with_reducible refine rp_isit ?_
    | with_reducible refine rp_mth ?_
    | with_reducible refine rp_cmp2 ?_
    | with_reducible refine rp_neg ?_
    | with_reducible refine rp_t0 ?_
    | with_reducible refine rp_t1 ?_
    | with_reducible refine rp_lc ?_
    | with_reducible refine rp_lcL ?_
    | with_reducible refine rp_lstL ?_
    | with_reducible refine rp_catL ?_
    | with_reducible refine rp_listL ?_
    | with_reducible refine rp_of ?_
    | with_reducible refine rp_r1 ?_
    | with_reducible refine rp_r2 ?_
    | with_reducible refine rp_enum ?_
    | with_reducible refine rp_zip ?_
    | with_reducible refine op_nil ?_
    | with_reducible refine op_norm (by simp only [List.set_cons_succ, List.set_cons_zero, List.map_cons, List.map_nil, List.cons_append, List.nil_append]; rfl) (op_cons ?_)
    | with_reducible refine op_cons ?_
    | with_reducible refine op_asg ?_
    | with_reducible refine op_ifT ?_
    | with_reducible refine rt_and ?_
    | with_reducible refine rt_or ?_
    | with_reducible refine rt_not ?_
    | with_reducible refine rt_of ?_
    | with_reducible refine op_ret ?_
    | with_reducible refine op_new ?_
    | with_reducible refine op_app (by with_unfolding_all rfl) (by first | exact st_get | exact st_get2) ?_
    | with_reducible refine op_aug (by with_unfolding_all rfl) (by decide) ?_
    | with_reducible refine op_for ?_
    | with_reducible refine op_par ?_
    | with_reducible refine op_tp ?_
    | with_reducible refine op_seti (by with_unfolding_all rfl) ?_
    | with_reducible refine op_expr ?_
    | with_reducible refine op_doc ?_
    | with_reducible refine op_pass ?_
    | with_reducible refine op_retN ?_
    | with_reducible refine fin0 ?_
    | with_reducible refine fin1 ?_
    | with_reducible refine fino1 ?_
    | with_reducible refine fin2 ?_
    | refine ⟨_, _, _, _, rfl, st_get, lt_sz (by first | omega | (simp only [List.length_map, List.length_append, List.length_cons, List.length_nil]; omega)), st_set, ?_⟩
    | refine ⟨_, rfl, rngOk_in (by omega) (by omega), ?_⟩
    | refine ⟨_, src_live, ?_⟩
    | refine ⟨_, bi_live rfl, ?_⟩
    | (refine ⟨_, rfl, fun h => ?_, fun h => ?_⟩ <;> try (exact absurd h (by decide)))
    | refine ⟨_, rfl, ?_⟩
    | refine ⟨_, if_pos (by first | assumption | omega), ?_⟩
    | refine ⟨_, _, rfl, le_sz rfl, ?_⟩
    | refine ⟨_, _, rfl, rfl, ?_⟩
    | refine ⟨_, _, rfl, if_pos (by first | assumption | omega), ?_⟩
    | refine ⟨_, rfl, rfl, ?_⟩
    | refine ⟨rfl, ?_⟩
    | exact rfl
    | dsimp only)
        · refine ⟨by rw [h]; rfl, rfl, fun z => ?_⟩
          rw [h] at z; cases z
      · obtain ⟨y, hy, hy1, hy2⟩ := ways_free w ts (by omega)
        have hm : y ∈ (waysOf w).filter (fun x => !decide (x ∈ ts) && !decide (x ∈ barred)) := by
          rw [List.mem_filter]
          exact ⟨hy, by simp [hy1, hy2]⟩
        cases hf : (waysOf w).filter (fun x => !decide (x ∈ ts) && !decide (x ∈ barred)) with
        | nil => rw [hf] at hm; cases hm
        | cons x r =>
          have hx : x ∈ (waysOf w).filter (fun x => !decide (x ∈ ts) && !decide (x ∈ barred)) := by rw [hf]; exact List.mem_cons_self
          rw [List.mem_filter] at hx
          obtain ⟨hx1, hx2⟩ := hx
          simp only [Bool.and_eq_true, Bool.not_eq_true', decide_eq_false_iff_not] at hx2
          obtain ⟨o1, o2, o3⟩ := hok x hx1
          have ei : idxD (.lst ((x :: r).map .str)) (.int 0) = some (.str x) := by
            simp only [idxD]
            exact L2.atI_nat (j := 0) rfl
          repeat' (first
    | with_reducible refine rp_var (by with_unfolding_all rfl) ?_
    | refine ⟨_, ei, ?_⟩
    | with_reducible refine rp_lit ?_
    | with_reducible refine rp_glb ?_
    | with_reducible refine rp_bin ?_
    | with_reducible refine rp_cmp ?_
    | with_reducible refine rp_cons ?_
    | with_reducible refine rp_nil ?_
    | with_reducible refine rp_idx ?_
    | with_reducible refine rp_call ?_
    | with_reducible refine rp_bi ?_
    | with_reducible refine rp_fz ?_
    | with_reducible refine rp_and ?_
    | with_reducible refine rp_or ?_
    | with_reducible refine rp_not ?_
    | with_reducible refine rp_ifT ?_
    | with_reducible refine rp_slc ?_
    | with_reducible refine rp_p0 ?_
    | with_reducible refine rp_p1 ?_
    | with_reducible refine rp_tup ?_
    | with_reducible refine rp_lst ?_
    | with_reducible refine rp_isi ?_
    | with_reducible refine rp_isit ?_
    | with_reducible refine rp_mth ?_
    | with_reducible refine rp_cmp2 ?_
    | with_reducible refine rp_neg ?_
    | with_reducible refine rp_t0 ?_
    | with_reducible refine rp_t1 ?_
    | with_reducible refine rp_lc ?_
    | with_reducible refine rp_lcL ?_
    | with_reducible refine rp_lstL ?_
    | with_reducible refine rp_catL ?_
    | with_reducible refine rp_listL ?_
    | with_reducible refine rp_of ?_
    | with_reducible refine rp_r1 ?_
    | with_reducible refine rp_r2 ?_
    | with_reducible refine rp_enum ?_
    | with_reducible refine rp_zip ?_
    | with_reducible refine op_nil ?_
    | with_reducible refine op_norm (by simp only [List.set_cons_succ, List.set_cons_zero, List.map_cons, List.map_nil, List.cons_append, List.nil_append]; rfl) (op_cons ?_)
    | with_reducible refine op_cons ?_
    | with_reducible refine op_asg ?_
    | with_reducible refine op_ifT ?_
    | with_reducible refine rt_and ?_
    | with_reducible refine rt_or ?_
    | with_reducible refine rt_not ?_
    | with_reducible refine rt_of ?_
    | with_reducible refine op_ret ?_
    | with_reducible refine op_new ?_
    | with_reducible refine op_app (by with_unfolding_all rfl) (by first | exact st_get | exact st_get2) ?_
    | with_reducible refine op_aug (by with_unfolding_all rfl) (by decide) ?_
    | with_reducible refine op_for ?_
    | with_reducible refine op_par ?_
    | with_reducible refine op_tp ?_
    | with_reducible refine op_seti (by with_unfolding_all rfl) ?_
    | with_reducible refine op_expr ?_
    | with_reducible refine op_doc ?_
    | with_reducible refine op_pass ?_
    | with_reducible refine op_retN ?_
    | with_reducible refine fin0 ?_
    | with_reducible refine fin1 ?_
    | with_reducible refine fino1 ?_
    | with_reducible refine fin2 ?_
    | refine ⟨_, _, _, _, rfl, st_get, lt_sz (by first | omega | (simp only [List.length_map, List.length_append, List.length_cons, List.length_nil]; omega)), st_set, ?_⟩
    | refine ⟨_, rfl, rngOk_in (by omega) (by omega), ?_⟩
    | refine ⟨_, src_live, ?_⟩
    | refine ⟨_, bi_live rfl, ?_⟩
    | (refine ⟨_, rfl, fun h => ?_, fun h => ?_⟩ <;> try (exact absurd h (by decide)))
    | refine ⟨_, rfl, ?_⟩
    | refine ⟨_, if_pos (by first | assumption | omega), ?_⟩
    | refine ⟨_, _, rfl, le_sz rfl, ?_⟩
    | refine ⟨_, _, rfl, rfl, ?_⟩
    | refine ⟨_, _, rfl, if_pos (by first | assumption | omega), ?_⟩
    | refine ⟨_, rfl, rfl, ?_⟩
    | refine ⟨rfl, ?_⟩
    | exact rfl
    | dsimp only)
          exact ⟨⟨o1, o2, o3, hx2.2⟩, hx2.1⟩
end M

/-! columns and grounds of the laws -/
namespace M
open PySem PySem.Spec PyProof.Rows L2

def cutL {α : Type} (xs : List α) (lo hi : Option Int) : List α := (xs.drop (HT.sIx xs.length 0 lo)).take (HT.sIx xs.length xs.length hi - HT.sIx xs.length 0 lo)
theorem slc_ints (ps : List Int) (lo hi : Option Int) : slcD (.lst (ps.map .int)) lo hi = some (.lst ((cutL ps lo hi).map .int)) := by
  simp only [slcD, cutD, cutL, List.length_map, List.map_take, List.map_drop]
theorem cutL_mem {α : Type} {xs : List α} {lo hi : Option Int} {x : α} (h : x ∈ cutL xs lo hi) : x ∈ xs := List.mem_of_mem_drop (List.mem_of_mem_take h)
theorem cutL_len {α : Type} {xs : List α} {a b : Int} (h0 : 0 ≤ a) (h1 : a ≤ b) (h2 : b ≤ xs.length) : ((cutL xs (some a) (some b)).length : Int) = b - a := by
  have e1 : HT.sIx xs.length 0 (some a) = min a.toNat xs.length := if_neg (by omega)
  have e2 : HT.sIx xs.length xs.length (some b) = min b.toNat xs.length := if_neg (by omega)
  rw [cutL, e1, e2, List.length_take, List.length_drop]
  omega
theorem cutL_from {α : Type} {xs : List α} {a : Int} (h0 : 0 ≤ a) (h2 : a ≤ xs.length) : ((cutL xs (some a) none).length : Int) = xs.length - a := by
  have e1 : HT.sIx xs.length 0 (some a) = min a.toNat xs.length := if_neg (by omega)
  have e2 : HT.sIx xs.length xs.length none = xs.length := rfl
  rw [cutL, e1, e2, List.length_take, List.length_drop]
  omega
structure Col where
  name : Str
  size : Int
  emp : Bool
def colD (c : Col) : D := .tup [.str c.name, .int c.size, .bl c.emp]
def Col.vals (c : Col) : Int := c.size + (if c.emp = true then 1 else 0)
structure ColOk (c : Col) : Prop where
  name : NameOk c.name
  lo : 1 ≤ c.size
  hi : c.size ≤ 9
def roomOf : List Col → Int
  | [] => 1
  | c :: cs => c.vals * roomOf cs
theorem roomOf_app (cs : List Col) (c : Col) : roomOf (cs ++ [c]) = roomOf cs * c.vals := by
  induction cs with
  | nil => simp [roomOf]
  | cons d cs ih => rw [List.cons_append, roomOf, ih, roomOf, Int.mul_assoc]
structure ColsOk (cs : List Col) : Prop where
  each : ∀ c ∈ cs, ColOk c
  nd : (cs.map Col.name).Nodup
theorem names_map (cs : List Col) : (cs.map fun c => D.str c.name) = (cs.map Col.name).map D.str := by rw [List.map_map]; rfl
theorem emp_ok {F : FS} {ρ : Ev} {S : St'} {P : SV → St' → Prop} {E : EX} {v : Int} {ss : List Int} (h7 : ρ[7]? = some (some (.t (.int v)))) (h6 : ρ[6]? = some (some (.t (.lst (ss.map .int))))) (hl : 7 ≤ ss.length) (hP : ∀ b : Bool, (b = true → 1 < v) → (v = 10 → b = true) → P (.t (.bl b)) S) :
    RP (evalE F (.or (.cmp .eq (.var 7) (.lit (D.int 10))) (.and (.cmp .gt (.var 7) (.lit (D.int 1))) (.cmp .eq (.bin .mod (.idx (.var 6) (.lit (D.int 6))) (.lit (D.int 3))) (.lit (D.int 0))))) ρ S) P E := by
  have g6 : idxD (.lst (ss.map .int)) (.int 6) = some (.int (sget ss 6)) := at_int (j := 6) (by omega)
  repeat' (first
    | with_reducible refine rp_var (by with_unfolding_all rfl) ?_
    | refine ⟨_, g6, ?_⟩
    | refine rp_var h7 ?_
    | refine rp_var h6 ?_
    | with_reducible refine rp_lit ?_
    | with_reducible refine rp_glb ?_
    | with_reducible refine rp_bin ?_
    | with_reducible refine rp_cmp ?_
    | with_reducible refine rp_cons ?_
    | with_reducible refine rp_nil ?_
    | with_reducible refine rp_idx ?_
    | with_reducible refine rp_call ?_
    | with_reducible refine rp_bi ?_
    | with_reducible refine rp_fz ?_
    | with_reducible refine rp_and ?_
    | with_reducible refine rp_or ?_
    | with_reducible refine rp_not ?_
    | with_reducible refine rp_ifT ?_
    | with_reducible refine rp_slc ?_
    | with_reducible refine rp_p0 ?_
    | with_reducible refine rp_p1 ?_
    | with_reducible refine rp_tup ?_
    | with_reducible refine rp_lst ?_
    | with_reducible refine rp_isi ?_
    | with_reducible refine rp_isit ?_
    | with_reducible refine rp_mth ?_
    | with_reducible refine rp_cmp2 ?_
    | with_reducible refine rp_neg ?_
    | with_reducible refine rp_t0 ?_
    | with_reducible refine rp_t1 ?_
    | with_reducible refine rp_lc ?_
    | with_reducible refine rp_lcL ?_
    | with_reducible refine rp_lstL ?_
    | with_reducible refine rp_catL ?_
    | with_reducible refine rp_listL ?_
    | with_reducible refine rp_of ?_
    | with_reducible refine rp_r1 ?_
    | with_reducible refine rp_r2 ?_
    | with_reducible refine rp_enum ?_
    | with_reducible refine rp_zip ?_
    | with_reducible refine op_nil ?_
    | with_reducible refine op_norm (by simp only [List.set_cons_succ, List.set_cons_zero, List.map_cons, List.map_nil, List.cons_append, List.nil_append]; rfl) (op_cons ?_)
    | with_reducible refine op_cons ?_
    | with_reducible refine op_asg ?_
    | with_reducible refine op_ifT ?_
    | with_reducible refine rt_and ?_
    | with_reducible refine rt_or ?_
    | with_reducible refine rt_not ?_
    | with_reducible refine rt_of ?_
    | with_reducible refine op_ret ?_
    | with_reducible refine op_new ?_
    | with_reducible refine op_app (by with_unfolding_all rfl) (by first | exact st_get | exact st_get2) ?_
    | with_reducible refine op_aug (by with_unfolding_all rfl) (by decide) ?_
    | with_reducible refine op_for ?_
    | with_reducible refine op_par ?_
    | with_reducible refine op_tp ?_
    | with_reducible refine op_seti (by with_unfolding_all rfl) ?_
    | with_reducible refine op_expr ?_
    | with_reducible refine op_doc ?_
    | with_reducible refine op_pass ?_
    | with_reducible refine op_retN ?_
    | with_reducible refine fin0 ?_
    | with_reducible refine fin1 ?_
    | with_reducible refine fino1 ?_
    | with_reducible refine fin2 ?_
    | refine ⟨_, _, _, _, rfl, st_get, lt_sz (by first | omega | (simp only [List.length_map, List.length_append, List.length_cons, List.length_nil]; omega)), st_set, ?_⟩
    | refine ⟨_, rfl, rngOk_in (by omega) (by omega), ?_⟩
    | refine ⟨_, src_live, ?_⟩
    | refine ⟨_, bi_live rfl, ?_⟩
    | (refine ⟨_, rfl, fun h => ?_, fun h => ?_⟩ <;> try (exact absurd h (by decide)))
    | refine ⟨_, rfl, ?_⟩
    | refine ⟨_, if_pos (by first | assumption | omega), ?_⟩
    | refine ⟨_, _, rfl, le_sz rfl, ?_⟩
    | refine ⟨_, _, rfl, rfl, ?_⟩
    | refine ⟨_, _, rfl, if_pos (by first | assumption | omega), ?_⟩
    | refine ⟨_, rfl, rfl, ?_⟩
    | refine ⟨rfl, ?_⟩
    | exact rfl
    | dsimp only)
  · have h' : (v == 10) = true := h
    have h' := eq_of_beq h'
    exact hP _ (fun _ => by omega) fun _ => h
  · rename_i h0
    have h1 : (v == 10) = false := h0
    have h2 := of_decide_eq_true h
    exact hP _ (fun _ => by omega) fun e => by rw [e] at h1; cases h1
  · rename_i h0
    have h1 : (v == 10) = false := h0
    exact hP _ (fun e => by rw [h] at e; cases e) fun e => by rw [e] at h1; cases h1
theorem columns_ok {T : List Fn} {i iN : Nat} (hT : T[i]? = some (f__law_columns iN)) (hN : T[iN]? = some f__law_name) (n : Nat) (ps : List Int) (many top : Int) (hm : 1 ≤ many ∧ many ≤ 4) (hl : 7 * many ≤ ps.length) (hb : ∀ x ∈ ps, 0 ≤ x ∧ x < 1000) (ht : 1 ≤ top ∧ top < 1073741824) (S : St') :
    RP (FT T (n + 2) i [.t (.lst (ps.map .int)), .t (.int many), .t (.int top)] S) (fun v S' => S' = S ∧ ∃ cs : List Col, v = .t (.tup [.tup (cs.map colD), .int (roomOf cs)]) ∧ (cs.length : Int) = many ∧ ColsOk cs ∧ 1 ≤ roomOf cs ∧ roomOf cs ≤ top) noE := by
  refine rp_fn hT rfl rfl ?_
  simp only [f__law_columns, pad]
  repeat' (first
    | with_reducible refine rp_var (by with_unfolding_all rfl) ?_
    | with_reducible refine rp_lit ?_
    | with_reducible refine rp_glb ?_
    | with_reducible refine rp_bin ?_
    | with_reducible refine rp_cmp ?_
    | with_reducible refine rp_cons ?_
    | with_reducible refine rp_nil ?_
    | with_reducible refine rp_idx ?_
    | with_reducible refine rp_call ?_
    | with_reducible refine rp_bi ?_
    | with_reducible refine rp_fz ?_
    | with_reducible refine rp_and ?_
    | with_reducible refine rp_or ?_
    | with_reducible refine rp_not ?_
    | with_reducible refine rp_ifT ?_
    | with_reducible refine rp_slc ?_
    | with_reducible refine rp_p0 ?_
    | with_reducible refine rp_p1 ?_
    | with_reducible refine rp_tup ?_
    | with_reducible refine rp_lst ?_
    | with_reducible refine rp_isi ?_
    | with_reducible refine rp_isit ?_
    | with_reducible refine rp_mth ?_
    | with_reducible refine rp_cmp2 ?_
    | with_reducible refine rp_neg ?_
    | with_reducible refine rp_t0 ?_
    | with_reducible refine rp_t1 ?_
    | with_reducible refine rp_lc ?_
    | with_reducible refine rp_lcL ?_
    | with_reducible refine rp_lstL ?_
    | with_reducible refine rp_catL ?_
    | with_reducible refine rp_listL ?_
    | with_reducible refine rp_of ?_
    | with_reducible refine rp_r1 ?_
    | with_reducible refine rp_r2 ?_
    | with_reducible refine rp_enum ?_
    | with_reducible refine rp_zip ?_
    | with_reducible refine op_nil ?_
    | with_reducible refine op_norm (by simp only [List.set_cons_succ, List.set_cons_zero, List.map_cons, List.map_nil, List.cons_append, List.nil_append]; rfl) (op_cons ?_)
    | with_reducible refine op_cons ?_
    | with_reducible refine op_asg ?_
    | with_reducible refine op_ifT ?_
    | with_reducible refine rt_and ?_
    | with_reducible refine rt_or ?_
    | with_reducible refine rt_not ?_
    | with_reducible refine rt_of ?_
    | with_reducible refine op_ret ?_
    | with_reducible refine op_new ?_
    | with_reducible refine op_app (by with_unfolding_all rfl) (by first | exact st_get | exact st_get2) ?_
    | with_reducible refine op_aug (by with_unfolding_all rfl) (by decide) ?_
    | with_reducible refine op_for ?_
    | with_reducible refine op_par ?_
    | with_reducible refine op_tp ?_
    | with_reducible refine op_seti (by with_unfolding_all rfl) ?_
    | with_reducible refine op_expr ?_
    | with_reducible refine op_doc ?_
    | with_reducible refine op_pass ?_
    | with_reducible refine op_retN ?_
    | with_reducible refine fin0 ?_
    | with_reducible refine fin1 ?_
    | with_reducible refine fino1 ?_
    | with_reducible refine fin2 ?_
    | refine ⟨_, _, _, _, rfl, st_get, lt_sz (by first | omega | (simp only [List.length_map, List.length_append, List.length_cons, List.length_nil]; omega)), st_set, ?_⟩
    | refine ⟨_, rfl, rngOk_in (by omega) (by omega), ?_⟩
    | refine ⟨_, src_live, ?_⟩
    | refine ⟨_, bi_live rfl, ?_⟩
    | (refine ⟨_, rfl, fun h => ?_, fun h => ?_⟩ <;> try (exact absurd h (by decide)))
    | refine ⟨_, rfl, ?_⟩
    | refine ⟨_, if_pos (by first | assumption | omega), ?_⟩
    | refine ⟨_, _, rfl, le_sz rfl, ?_⟩
    | refine ⟨_, _, rfl, rfl, ?_⟩
    | refine ⟨_, _, rfl, if_pos (by first | assumption | omega), ?_⟩
    | refine ⟨_, rfl, rfl, ?_⟩
    | refine ⟨rfl, ?_⟩
    | exact rfl
    | dsimp only)
  refine op_fix (fun l ρ S' => ∃ (k : Int) (cs : List Col) (k5 k6 k7 k8 : Option SV), 0 ≤ k ∧ k ≤ many ∧ l = rangeD k many ∧ ρ = [some (.t (.lst (ps.map .int))), some (.t (.int many)), some (.t (.int top)), some (.o S.length), some (.t (.int (roomOf cs))), k5, k6, k7, k8, none] ∧ S' = S ++ [.lst (cs.map colD)] ∧ (cs.length : Int) = k ∧ ColsOk cs ∧ 1 ≤ roomOf cs ∧ roomOf cs ≤ top) ?_ ?_ ?_
  · exact ⟨0, [], none, none, none, none, by omega, by omega, rfl, rfl, rfl, rfl, ⟨by simp, by simp⟩, by decide, by simpa [roomOf] using ht.1⟩
  · rintro d ds ρ S' ⟨k, cs, k5, k6, k7, k8, hk0, hk, hl', rfl, rfl, hcl, hcs, hr1, hr2⟩
    have hlt : k < many := by
      rcases Int.lt_or_le k many with h | h
      · exact h
      · rw [rangeD_nil h] at hl'; cases hl'
    rw [rangeD_cons hlt] at hl'
    cases hl'
    obtain ⟨ss, hss⟩ : ∃ ss, ss = cutL ps (some (7 * k)) (some (7 * k + 7)) := ⟨_, rfl⟩
    have hsl : ss.length = 7 := by
      have := cutL_len (xs := ps) (a := 7 * k) (b := 7 * k + 7) (by omega) (by omega) (by omega)
      rw [← hss] at this
      omega
    have hsb : ∀ x ∈ ss, 0 ≤ x ∧ x < 1000 := fun x hx => hb x (cutL_mem (hss ▸ hx))
    have g : slcD (.lst (ps.map .int)) (some (7 * k)) (some (7 * k + 7)) = some (.lst (ss.map .int)) := by rw [hss]; exact slc_ints _ _ _
    have g5 : idxD (.lst (ss.map .int)) (.int 5) = some (.int (sget ss 5)) := at_int (j := 5) (by omega)
    have g6 : idxD (.lst (ss.map .int)) (.int 6) = some (.int (sget ss 6)) := at_int (j := 6) (by omega)
    have b5 := hsb _ (sget_mem (ss := ss) (j := 5) (by omega))
    have b6 := hsb _ (sget_mem (ss := ss) (j := 6) (by omega))
    have hq : 1 ≤ top / roomOf cs := by
      rw [Int.le_ediv_iff_mul_le (by omega)]; omega
    have hmn : 0 < (if top / roomOf cs < 10 then top / roomOf cs else 10) := by split <;> omega
    refine ⟨_, rfl, ?_⟩
    have hv : 1 ≤ 1 + sget ss 5 % (if top / roomOf cs < 10 then top / roomOf cs else 10) ∧ 1 + sget ss 5 % (if top / roomOf cs < 10 then top / roomOf cs else 10) ≤ 10 ∧ 1 + sget ss 5 % (if top / roomOf cs < 10 then top / roomOf cs else 10) ≤ top / roomOf cs := by
      have h1 := Int.emod_nonneg (sget ss 5) (show (if top / roomOf cs < 10 then top / roomOf cs else 10) ≠ 0 by omega)
      have h2 := Int.emod_lt_of_pos (sget ss 5) hmn
      split at h1 <;> split at h2 <;> (try omega)
      · rename_i h; rw [if_pos h]; omega
      · rename_i h; rw [if_neg h]; omega
    repeat' (first
    | with_reducible refine rp_var (by with_unfolding_all rfl) ?_
    | refine ⟨_, g, ?_⟩
    | refine ⟨_, g5, ?_⟩
    | refine ⟨_, g6, ?_⟩
    | refine emp_ok rfl rfl (by omega) fun b hb1 hb2 => ?_
    | with_reducible refine rp_lit ?_
    | with_reducible refine rp_glb ?_
    | with_reducible refine rp_bin ?_
    | with_reducible refine rp_cmp ?_
    | with_reducible refine rp_cons ?_
    | with_reducible refine rp_nil ?_
    | with_reducible refine rp_idx ?_
    | with_reducible refine rp_call ?_
    | with_reducible refine rp_bi ?_
    | with_reducible refine rp_fz ?_
    | with_reducible refine rp_and ?_
    | with_reducible refine rp_or ?_
    | with_reducible refine rp_not ?_
    | with_reducible refine rp_ifT ?_
    | with_reducible refine rp_slc ?_
    | with_reducible refine rp_p0 ?_
    | with_reducible refine rp_p1 ?_
    | with_reducible refine rp_tup ?_
    | with_reducible refine rp_lst ?_
    | with_reducible refine rp_isi ?_
    | with_reducible refine rp_isit ?_
    | with_reducible refine rp_mth ?_
    | with_reducible refine rp_cmp2 ?_
    | with_reducible refine rp_neg ?_
    | with_reducible refine rp_t0 ?_
    | with_reducible refine rp_t1 ?_
    | with_reducible refine rp_lc ?_
    | with_reducible refine rp_lcL ?_
    | with_reducible refine rp_lstL ?_
    | with_reducible refine rp_catL ?_
    | with_reducible refine rp_listL ?_
    | with_reducible refine rp_of ?_
    | with_reducible refine rp_r1 ?_
    | with_reducible refine rp_r2 ?_
    | with_reducible refine rp_enum ?_
    | with_reducible refine rp_zip ?_
    | with_reducible refine op_nil ?_
    | with_reducible refine op_norm (by simp only [List.set_cons_succ, List.set_cons_zero, List.map_cons, List.map_nil, List.cons_append, List.nil_append]; rfl) (op_cons ?_)
    | with_reducible refine op_cons ?_
    | with_reducible refine op_asg ?_
    | with_reducible refine op_ifT ?_
    | with_reducible refine rt_and ?_
    | with_reducible refine rt_or ?_
    | with_reducible refine rt_not ?_
    | with_reducible refine rt_of ?_
    | with_reducible refine op_ret ?_
    | with_reducible refine op_new ?_
    | with_reducible refine op_app (by with_unfolding_all rfl) (by first | exact st_get | exact st_get2) ?_
    | with_reducible refine op_aug (by with_unfolding_all rfl) (by decide) ?_
    | with_reducible refine op_for ?_
    | with_reducible refine op_par ?_
    | with_reducible refine op_tp ?_
    | with_reducible refine op_seti (by with_unfolding_all rfl) ?_
    | with_reducible refine op_expr ?_
    | with_reducible refine op_doc ?_
    | with_reducible refine op_pass ?_
    | with_reducible refine op_retN ?_
    | with_reducible refine fin0 ?_
    | with_reducible refine fin1 ?_
    | with_reducible refine fino1 ?_
    | with_reducible refine fin2 ?_
    | refine ⟨_, _, _, _, rfl, st_get, lt_sz (by first | omega | (simp only [List.length_map, List.length_append, List.length_cons, List.length_nil]; omega)), st_set, ?_⟩
    | refine ⟨_, rfl, rngOk_in (by omega) (by omega), ?_⟩
    | refine ⟨_, src_live, ?_⟩
    | refine ⟨_, bi_live rfl, ?_⟩
    | (refine ⟨_, rfl, fun h => ?_, fun h => ?_⟩ <;> try (exact absurd h (by decide)))
    | refine ⟨_, rfl, ?_⟩
    | refine ⟨_, if_pos (by first | assumption | omega), ?_⟩
    | refine ⟨_, _, rfl, le_sz rfl, ?_⟩
    | refine ⟨_, _, rfl, rfl, ?_⟩
    | refine ⟨_, _, rfl, if_pos (by first | assumption | omega), ?_⟩
    | refine ⟨_, rfl, rfl, ?_⟩
    | refine ⟨rfl, ?_⟩
    | exact rfl
    | dsimp only)
    generalize 1 + sget ss 5 % (if top / roomOf cs < 10 then top / roomOf cs else 10) = v at *
    refine rp_lcV colD (fun c => .str c.name) st_get (by omega) (fun c hc acc => ?_) ?_
    · refine ⟨_, rfl, ?_⟩
      repeat' (first
    | with_reducible refine rp_var (by with_unfolding_all rfl) ?_
    | with_reducible refine rp_lit ?_
    | with_reducible refine rp_glb ?_
    | with_reducible refine rp_bin ?_
    | with_reducible refine rp_cmp ?_
    | with_reducible refine rp_cons ?_
    | with_reducible refine rp_nil ?_
    | with_reducible refine rp_idx ?_
    | with_reducible refine rp_call ?_
    | with_reducible refine rp_bi ?_
    | with_reducible refine rp_fz ?_
    | with_reducible refine rp_and ?_
    | with_reducible refine rp_or ?_
    | with_reducible refine rp_not ?_
    | with_reducible refine rp_ifT ?_
    | with_reducible refine rp_slc ?_
    | with_reducible refine rp_p0 ?_
    | with_reducible refine rp_p1 ?_
    | with_reducible refine rp_tup ?_
    | with_reducible refine rp_lst ?_
    | with_reducible refine rp_isi ?_
    | with_reducible refine rp_isit ?_
    | with_reducible refine rp_mth ?_
    | with_reducible refine rp_cmp2 ?_
    | with_reducible refine rp_neg ?_
    | with_reducible refine rp_t0 ?_
    | with_reducible refine rp_t1 ?_
    | with_reducible refine rp_lc ?_
    | with_reducible refine rp_lcL ?_
    | with_reducible refine rp_lstL ?_
    | with_reducible refine rp_catL ?_
    | with_reducible refine rp_listL ?_
    | with_reducible refine rp_of ?_
    | with_reducible refine rp_r1 ?_
    | with_reducible refine rp_r2 ?_
    | with_reducible refine rp_enum ?_
    | with_reducible refine rp_zip ?_
    | with_reducible refine op_nil ?_
    | with_reducible refine op_norm (by simp only [List.set_cons_succ, List.set_cons_zero, List.map_cons, List.map_nil, List.cons_append, List.nil_append]; rfl) (op_cons ?_)
    | with_reducible refine op_cons ?_
    | with_reducible refine op_asg ?_
    | with_reducible refine op_ifT ?_
    | with_reducible refine rt_and ?_
    | with_reducible refine rt_or ?_
    | with_reducible refine rt_not ?_
    | with_reducible refine rt_of ?_
    | with_reducible refine op_ret ?_
    | with_reducible refine op_new ?_
    | with_reducible refine op_app (by with_unfolding_all rfl) (by first | exact st_get | exact st_get2) ?_
    | with_reducible refine op_aug (by with_unfolding_all rfl) (by decide) ?_
    | with_reducible refine op_for ?_
    | with_reducible refine op_par ?_
    | with_reducible refine op_tp ?_
    | with_reducible refine op_seti (by with_unfolding_all rfl) ?_
    | with_reducible refine op_expr ?_
    | with_reducible refine op_doc ?_
    | with_reducible refine op_pass ?_
    | with_reducible refine op_retN ?_
    | with_reducible refine fin0 ?_
    | with_reducible refine fin1 ?_
    | with_reducible refine fino1 ?_
    | with_reducible refine fin2 ?_
    | refine ⟨_, _, _, _, rfl, st_get, lt_sz (by first | omega | (simp only [List.length_map, List.length_append, List.length_cons, List.length_nil]; omega)), st_set, ?_⟩
    | refine ⟨_, rfl, rngOk_in (by omega) (by omega), ?_⟩
    | refine ⟨_, src_live, ?_⟩
    | refine ⟨_, bi_live rfl, ?_⟩
    | (refine ⟨_, rfl, fun h => ?_, fun h => ?_⟩ <;> try (exact absurd h (by decide)))
    | refine ⟨_, rfl, ?_⟩
    | refine ⟨_, if_pos (by first | assumption | omega), ?_⟩
    | refine ⟨_, _, rfl, le_sz rfl, ?_⟩
    | refine ⟨_, _, rfl, rfl, ?_⟩
    | refine ⟨_, _, rfl, if_pos (by first | assumption | omega), ?_⟩
    | refine ⟨_, rfl, rfl, ?_⟩
    | refine ⟨rfl, ?_⟩
    | exact rfl
    | dsimp only)
    · rw [names_map]
      repeat' (first
    | with_reducible refine rp_var (by with_unfolding_all rfl) ?_
    | with_reducible refine rp_lit ?_
    | with_reducible refine rp_glb ?_
    | with_reducible refine rp_bin ?_
    | with_reducible refine rp_cmp ?_
    | with_reducible refine rp_cons ?_
    | with_reducible refine rp_nil ?_
    | with_reducible refine rp_idx ?_
    | with_reducible refine rp_call ?_
    | with_reducible refine rp_bi ?_
    | with_reducible refine rp_fz ?_
    | with_reducible refine rp_and ?_
    | with_reducible refine rp_or ?_
    | with_reducible refine rp_not ?_
    | with_reducible refine rp_ifT ?_
    | with_reducible refine rp_slc ?_
    | with_reducible refine rp_p0 ?_
    | with_reducible refine rp_p1 ?_
    | with_reducible refine rp_tup ?_
    | with_reducible refine rp_lst ?_
    | with_reducible refine rp_isi ?_
    | with_reducible refine rp_isit ?_
    | with_reducible refine rp_mth ?_
    | with_reducible refine rp_cmp2 ?_
    | with_reducible refine rp_neg ?_
    | with_reducible refine rp_t0 ?_
    | with_reducible refine rp_t1 ?_
    | with_reducible refine rp_lc ?_
    | with_reducible refine rp_lcL ?_
    | with_reducible refine rp_lstL ?_
    | with_reducible refine rp_catL ?_
    | with_reducible refine rp_listL ?_
    | with_reducible refine rp_of ?_
    | with_reducible refine rp_r1 ?_
    | with_reducible refine rp_r2 ?_
    | with_reducible refine rp_enum ?_
    | with_reducible refine rp_zip ?_
    | with_reducible refine op_nil ?_
    | with_reducible refine op_norm (by simp only [List.set_cons_succ, List.set_cons_zero, List.map_cons, List.map_nil, List.cons_append, List.nil_append]; rfl) (op_cons ?_)
    | with_reducible refine op_cons ?_
    | with_reducible refine op_asg ?_
    | with_reducible refine op_ifT ?_
    | with_reducible refine rt_and ?_
    | with_reducible refine rt_or ?_
    | with_reducible refine rt_not ?_
    | with_reducible refine rt_of ?_
    | with_reducible refine op_ret ?_
    | with_reducible refine op_new ?_
    | with_reducible refine op_app (by with_unfolding_all rfl) (by first | exact st_get | exact st_get2) ?_
    | with_reducible refine op_aug (by with_unfolding_all rfl) (by decide) ?_
    | with_reducible refine op_for ?_
    | with_reducible refine op_par ?_
    | with_reducible refine op_tp ?_
    | with_reducible refine op_seti (by with_unfolding_all rfl) ?_
    | with_reducible refine op_expr ?_
    | with_reducible refine op_doc ?_
    | with_reducible refine op_pass ?_
    | with_reducible refine op_retN ?_
    | with_reducible refine fin0 ?_
    | with_reducible refine fin1 ?_
    | with_reducible refine fino1 ?_
    | with_reducible refine fin2 ?_
    | refine ⟨_, _, _, _, rfl, st_get, lt_sz (by first | omega | (simp only [List.length_map, List.length_append, List.length_cons, List.length_nil]; omega)), st_set, ?_⟩
    | refine ⟨_, rfl, rngOk_in (by omega) (by omega), ?_⟩
    | refine ⟨_, src_live, ?_⟩
    | refine ⟨_, bi_live rfl, ?_⟩
    | (refine ⟨_, rfl, fun h => ?_, fun h => ?_⟩ <;> try (exact absurd h (by decide)))
    | refine ⟨_, rfl, ?_⟩
    | refine ⟨_, if_pos (by first | assumption | omega), ?_⟩
    | refine ⟨_, _, rfl, le_sz rfl, ?_⟩
    | refine ⟨_, _, rfl, rfl, ?_⟩
    | refine ⟨_, _, rfl, if_pos (by first | assumption | omega), ?_⟩
    | refine ⟨_, rfl, rfl, ?_⟩
    | refine ⟨rfl, ?_⟩
    | exact rfl
    | dsimp only)
      refine RP.of_no (name_ok hN n ss (by omega) hsb (cs.map Col.name) (by simp; omega) (fun t ht => ?_) _) fun v' S1 ⟨e, w, ev, hw, hwn⟩ => ?_
      · obtain ⟨c, hc, rfl⟩ := List.mem_map.mp ht
        exact (hcs.each c hc).name.let_.ok
      · subst e; subst ev
        repeat' (first
    | with_reducible refine rp_var (by with_unfolding_all rfl) ?_
    | with_reducible refine rp_lit ?_
    | with_reducible refine rp_glb ?_
    | with_reducible refine rp_bin ?_
    | with_reducible refine rp_cmp ?_
    | with_reducible refine rp_cons ?_
    | with_reducible refine rp_nil ?_
    | with_reducible refine rp_idx ?_
    | with_reducible refine rp_call ?_
    | with_reducible refine rp_bi ?_
    | with_reducible refine rp_fz ?_
    | with_reducible refine rp_and ?_
    | with_reducible refine rp_or ?_
    | with_reducible refine rp_not ?_
    | with_reducible refine rp_ifT ?_
    | with_reducible refine rp_slc ?_
    | with_reducible refine rp_p0 ?_
    | with_reducible refine rp_p1 ?_
    | with_reducible refine rp_tup ?_
    | with_reducible refine rp_lst ?_
    | with_reducible refine rp_isi ?_
    | with_reducible refine rp_isit ?_
    | with_reducible refine rp_mth ?_
    | with_reducible refine rp_cmp2 ?_
    | with_reducible refine rp_neg ?_
    | with_reducible refine rp_t0 ?_
    | with_reducible refine rp_t1 ?_
    | with_reducible refine rp_lc ?_
    | with_reducible refine rp_lcL ?_
    | with_reducible refine rp_lstL ?_
    | with_reducible refine rp_catL ?_
    | with_reducible refine rp_listL ?_
    | with_reducible refine rp_of ?_
    | with_reducible refine rp_r1 ?_
    | with_reducible refine rp_r2 ?_
    | with_reducible refine rp_enum ?_
    | with_reducible refine rp_zip ?_
    | with_reducible refine op_nil ?_
    | with_reducible refine op_norm (by simp only [List.set_cons_succ, List.set_cons_zero, List.map_cons, List.map_nil, List.cons_append, List.nil_append]; rfl) (op_cons ?_)
    | with_reducible refine op_cons ?_
    | with_reducible refine op_asg ?_
    | with_reducible refine op_ifT ?_
    | with_reducible refine rt_and ?_
    | with_reducible refine rt_or ?_
    | with_reducible refine rt_not ?_
    | with_reducible refine rt_of ?_
    | with_reducible refine op_ret ?_
    | with_reducible refine op_new ?_
    | with_reducible refine op_app (by with_unfolding_all rfl) (by first | exact st_get | exact st_get2) ?_
    | with_reducible refine op_aug (by with_unfolding_all rfl) (by decide) ?_
    | with_reducible refine op_for ?_
    | with_reducible refine op_par ?_
    | with_reducible refine op_tp ?_
    | with_reducible refine op_seti (by with_unfolding_all rfl) ?_
    | with_reducible refine op_expr ?_
    | with_reducible refine op_doc ?_
    | with_reducible refine op_pass ?_
    | with_reducible refine op_retN ?_
    | with_reducible refine fin0 ?_
    | with_reducible refine fin1 ?_
    | with_reducible refine fino1 ?_
    | with_reducible refine fin2 ?_
    | refine ⟨_, _, _, _, rfl, st_get, lt_sz (by first | omega | (simp only [List.length_map, List.length_append, List.length_cons, List.length_nil]; omega)), st_set, ?_⟩
    | refine ⟨_, rfl, rngOk_in (by omega) (by omega), ?_⟩
    | refine ⟨_, src_live, ?_⟩
    | refine ⟨_, bi_live rfl, ?_⟩
    | (refine ⟨_, rfl, fun h => ?_, fun h => ?_⟩ <;> try (exact absurd h (by decide)))
    | refine ⟨_, rfl, ?_⟩
    | refine ⟨_, if_pos (by first | assumption | omega), ?_⟩
    | refine ⟨_, _, rfl, le_sz rfl, ?_⟩
    | refine ⟨_, _, rfl, rfl, ?_⟩
    | refine ⟨_, _, rfl, if_pos (by first | assumption | omega), ?_⟩
    | refine ⟨_, rfl, rfl, ?_⟩
    | refine ⟨rfl, ?_⟩
    | exact rfl
    | dsimp only)
        have hvv : (⟨w, v - (if b = true then 1 else 0), b⟩ : Col).vals = v := by simp only [Col.vals]; omega
        have hmul : roomOf cs * v ≤ top := by
          have := (Int.le_ediv_iff_mul_le (a := v) (b := top) (c := roomOf cs) (by omega)).mp hv.2.2
          rw [Int.mul_comm]; exact this
        refine ⟨k + 1, cs ++ [⟨w, v - (if b = true then 1 else 0), b⟩], _, _, _, _, by omega, by omega, rfl, by rw [roomOf_app, hvv]; rfl, by rw [List.map_append]; rfl, by simp; omega, ⟨?_, ?_⟩, ?_, ?_⟩
        · intro c hc
          rcases List.mem_append.mp hc with hc | hc
          · exact hcs.each c hc
          · cases List.mem_singleton.mp hc
            refine ⟨hw, ?_, ?_⟩
            · show 1 ≤ v - _
              split
              · rename_i hb; have := hb1 hb; omega
              · omega
            · show v - _ ≤ 9
              by_cases hten : v = 10
              · rw [hb2 hten]; simp; omega
              · split <;> omega
        · rw [List.map_append, List.nodup_append]
          refine ⟨hcs.nd, by simp, fun a ha c hc => ?_⟩
          simp at hc
          subst hc
          intro e
          exact hwn (e ▸ ha)
        · rw [roomOf_app, hvv]
          exact Int.le_trans (by omega) (Int.mul_le_mul hr1 hv.1 (by omega) (by omega))
        · rw [roomOf_app, hvv]; exact hmul
  · rintro ρ S' ⟨k, cs, k5, k6, k7, k8, hk0, hk, hl', rfl, rfl, hcl, hcs, hr1, hr2⟩
    have hk : k = many := by
      rcases Int.lt_or_le k many with h | h
      · rw [rangeD_cons h] at hl'; cases hl'
      · omega
    repeat' (first
    | with_reducible refine rp_var (by with_unfolding_all rfl) ?_
    | with_reducible refine rp_lit ?_
    | with_reducible refine rp_glb ?_
    | with_reducible refine rp_bin ?_
    | with_reducible refine rp_cmp ?_
    | with_reducible refine rp_cons ?_
    | with_reducible refine rp_nil ?_
    | with_reducible refine rp_idx ?_
    | with_reducible refine rp_call ?_
    | with_reducible refine rp_bi ?_
    | with_reducible refine rp_fz ?_
    | with_reducible refine rp_and ?_
    | with_reducible refine rp_or ?_
    | with_reducible refine rp_not ?_
    | with_reducible refine rp_ifT ?_
    | with_reducible refine rp_slc ?_
    | with_reducible refine rp_p0 ?_
    | with_reducible refine rp_p1 ?_
    | with_reducible refine rp_tup ?_
    | with_reducible refine rp_lst ?_
    | with_reducible refine rp_isi ?_
    | with_reducible refine rp_isit ?_
    | with_reducible refine rp_mth ?_
    | with_reducible refine rp_cmp2 ?_
    | with_reducible refine rp_neg ?_
    | with_reducible refine rp_t0 ?_
    | with_reducible refine rp_t1 ?_
    | with_reducible refine rp_lc ?_
    | with_reducible refine rp_lcL ?_
    | with_reducible refine rp_lstL ?_
    | with_reducible refine rp_catL ?_
    | with_reducible refine rp_listL ?_
    | with_reducible refine rp_of ?_
    | with_reducible refine rp_r1 ?_
    | with_reducible refine rp_r2 ?_
    | with_reducible refine rp_enum ?_
    | with_reducible refine rp_zip ?_
    | with_reducible refine op_nil ?_
    | with_reducible refine op_norm (by simp only [List.set_cons_succ, List.set_cons_zero, List.map_cons, List.map_nil, List.cons_append, List.nil_append]; rfl) (op_cons ?_)
    | with_reducible refine op_cons ?_
    | with_reducible refine op_asg ?_
    | with_reducible refine op_ifT ?_
    | with_reducible refine rt_and ?_
    | with_reducible refine rt_or ?_
    | with_reducible refine rt_not ?_
    | with_reducible refine rt_of ?_
    | with_reducible refine op_ret ?_
    | with_reducible refine op_new ?_
    | with_reducible refine op_app (by with_unfolding_all rfl) (by first | exact st_get | exact st_get2) ?_
    | with_reducible refine op_aug (by with_unfolding_all rfl) (by decide) ?_
    | with_reducible refine op_for ?_
    | with_reducible refine op_par ?_
    | with_reducible refine op_tp ?_
    | with_reducible refine op_seti (by with_unfolding_all rfl) ?_
    | with_reducible refine op_expr ?_
    | with_reducible refine op_doc ?_
    | with_reducible refine op_pass ?_
    | with_reducible refine op_retN ?_
    | with_reducible refine fin0 ?_
    | with_reducible refine fin1 ?_
    | with_reducible refine fino1 ?_
    | with_reducible refine fin2 ?_
    | refine ⟨_, _, _, _, rfl, st_get, lt_sz (by first | omega | (simp only [List.length_map, List.length_append, List.length_cons, List.length_nil]; omega)), st_set, ?_⟩
    | refine ⟨_, rfl, rngOk_in (by omega) (by omega), ?_⟩
    | refine ⟨_, src_live, ?_⟩
    | refine ⟨_, bi_live rfl, ?_⟩
    | (refine ⟨_, rfl, fun h => ?_, fun h => ?_⟩ <;> try (exact absurd h (by decide)))
    | refine ⟨_, rfl, ?_⟩
    | refine ⟨_, if_pos (by first | assumption | omega), ?_⟩
    | refine ⟨_, _, rfl, le_sz rfl, ?_⟩
    | refine ⟨_, _, rfl, rfl, ?_⟩
    | refine ⟨_, _, rfl, if_pos (by first | assumption | omega), ?_⟩
    | refine ⟨_, rfl, rfl, ?_⟩
    | refine ⟨rfl, ?_⟩
    | exact rfl
    | dsimp only)
    exact ⟨by omega, hcs, hr1, hr2⟩

/-! ### grounds -/
structure Tab where
  name : Str
  key : Int
  cols : List Col
def tabD (t : Tab) : D := .tup [.str t.name, .int t.key, .tup (t.cols.map colD)]
structure TabOk (t : Tab) : Prop where
  name : NameOk t.name
  key0 : 0 ≤ t.key
  keyN : ∀ c ∈ t.cols.take t.key.toNat, c.emp = false
  keyL : t.key ≤ t.cols.length
  cols : ColsOk t.cols
  len1 : 1 ≤ t.cols.length
  len4 : t.cols.length ≤ 4
  room : 1 ≤ roomOf t.cols
def roomsOf : List Tab → Int
  | [] => 0
  | t :: ts => roomOf t.cols + roomsOf ts
theorem roomsOf_app (ts : List Tab) (t : Tab) : roomsOf (ts ++ [t]) = roomsOf ts + roomOf t.cols := by
  induction ts with
  | nil => simp [roomsOf]
  | cons d cs ih => rw [List.cons_append, roomsOf, ih, roomsOf, Int.add_assoc]
theorem roomsOf_perm {a b : List Tab} (h : a.Perm b) : roomsOf a = roomsOf b := by
  induction h with
  | nil => rfl
  | cons x _ ih => rw [roomsOf, roomsOf, ih]
  | swap x y l => simp only [roomsOf]; omega
  | trans _ _ h1 h2 => rw [h1, h2]
theorem tnames_map (ts : List Tab) : (ts.map fun t => D.str t.name) = (ts.map Tab.name).map D.str := by rw [List.map_map]; rfl
/-- what follows a name's order, as the sort has it -/
def tabLe (a b : Tab) : Bool := dle (tabD a) (tabD b)
theorem alike_col (a b : Col) : PySem.W.alike (toPy (colD a)) (toPy (colD b)) = true := by
  simp [colD, toPy, toPys, PySem.W.alike, PySem.W.alikeAll]
theorem alike_cols : ∀ a b : List Col, PySem.W.alikeAll (toPys (a.map colD)) (toPys (b.map colD)) = true
  | [], _ => by simp [toPys, PySem.W.alikeAll]
  | _ :: _, [] => by simp [toPys, PySem.W.alikeAll]
  | x :: xs, y :: ys => by simp only [List.map_cons, toPys, PySem.W.alikeAll, alike_col, alike_cols xs ys, Bool.and_self]
theorem alike_tab (a b : Tab) : PySem.W.alike (toPy (tabD a)) (toPy (tabD b)) = true := by
  simp [tabD, toPy, toPys, PySem.W.alike, PySem.W.alikeAll, alike_cols]
theorem Ok.colD {c : Col} (h : ColOk c) : Ok 1 (M.colD c) := .tup fun x hx => by
  simp at hx
  rcases hx with rfl | rfl | rfl
  · exact .str h.name.let_.ok
  · exact .int _
  · exact .bl _
theorem Ok.tabD {t : Tab} (h : TabOk t) : Ok 3 (M.tabD t) := .tup fun x hx => by
  simp at hx
  rcases hx with rfl | rfl | rfl
  · exact .str h.name.let_.ok
  · exact .int _
  · refine .tup fun x hx => ?_
    obtain ⟨c, hc, rfl⟩ := List.mem_map.mp hx
    exact .colD (h.cols.each c hc)
theorem sort_tabs {ts : List Tab} (h : ∀ t ∈ ts, TabOk t) (hl : ts.length ≤ 1000) : biD .sorted [.lst (ts.map tabD)] = some (.lst ((ts.mergeSort tabLe).map tabD)) := by
  have h1 : sortOk (ts.map tabD) = true := by
    unfold sortOk
    simp only [Bool.and_eq_true, Bool.or_eq_true, List.all_eq_true, decide_eq_true_eq]
    refine ⟨⟨⟨fun x hx y hy => ?_, fun x hx => ?_⟩, .inl fun x hx => ?_⟩, le_sz' (by simp; omega)⟩
    · obtain ⟨a, _, rfl⟩ := List.mem_map.mp hx
      obtain ⟨b, _, rfl⟩ := List.mem_map.mp hy
      exact alike_tab a b
    · obtain ⟨a, ha, rfl⟩ := List.mem_map.mp hx
      exact Nat.le_trans (Ok.tabD (h a ha)).2 (by omega)
    · obtain ⟨a, ha, rfl⟩ := List.mem_map.mp hx
      rfl
  simp only [biD, h1, if_true]
  rw [← List.map_mergeSort (r := tabLe) (s := dle) (f := tabD) fun a _ b _ => rfl]
structure GroundOk (ts : List Tab) (top : Int) : Prop where
  each : ∀ t ∈ ts, TabOk t
  nd : (ts.map Tab.name).Nodup
  len1 : 1 ≤ ts.length
  len4 : ts.length ≤ 4
  room : roomsOf ts ≤ top
theorem firstEq_true : ∀ (cs : List Col) (n : Nat), (∃ c ∈ cs, c.emp = true) → ∃ k, firstEq (.bl true) (cs.map fun c => D.bl c.emp) n = some k ∧ n ≤ k ∧ k - n < cs.length ∧ ∀ c ∈ cs.take (k - n), c.emp = false
  | [], n, h => by simp at h
  | c :: cs, n, h => by
    rw [List.map_cons, firstEq]
    by_cases hc : c.emp = true
    · refine ⟨n, by rw [hc]; rfl, Nat.le_refl _, by simp, by simp⟩
    · have hc : c.emp = false := by simpa using hc
      obtain ⟨k, e, h1, h2, h3⟩ := firstEq_true cs (n + 1) (by
        obtain ⟨d, hd, he⟩ := h
        rcases List.mem_cons.mp hd with rfl | hd
        · rw [hc] at he; cases he
        · exact ⟨d, hd, he⟩)
      refine ⟨k, by rw [hc]; exact e, by omega, by simp only [List.length_cons]; omega, ?_⟩
      rw [show k - n = (k - (n + 1)) + 1 by omega, List.take_succ_cons]
      intro d hd
      rcases List.mem_cons.mp hd with rfl | hd
      · exact hc
      · exact h3 d hd
theorem asBls_map {α : Type} (f : α → Bool) : ∀ xs : List α, asBls (xs.map fun x => D.bl (f x)) = some (xs.map f)
  | [] => rfl
  | x :: xs => by rw [List.map_cons, asBls, asBls_map f xs]; rfl
end M

/-! grounds of the laws -/
namespace M
open PySem PySem.Spec PyProof.Rows L2
theorem key_ok {F : FS} {ρ : Ev} {S : St'} {P : SV → St' → Prop} {E : EX} {cs : List Col} (h6 : ρ[6]? = some (some (.t (.tup (cs.map colD))))) (h10 : ρ.length = 11) (hl : cs.length ≤ 1000) (hP : ∀ key : Nat, key ≤ cs.length → (∀ c ∈ cs.take key, c.emp = false) → P (.t (.int (key : Int))) S) :
    RP (evalE F (.ife (.bi .any [(.lc (.v 10) (.of (.var 6)) [] (.idx (.var 10) (.lit (D.int 2))))]) (.mth .index (.lc (.v 10) (.of (.var 6)) [] (.idx (.var 10) (.lit (D.int 2)))) [(.lit (D.bl true))]) (.bi .len [(.var 6)])) ρ S) P E := by
  have lc : ∀ {P : List D → St' → Prop} {E : EX}, P (cs.map fun c => .bl c.emp) S → RP (lcSrc (.v 10) (tests (evalCs F [])) (evalE F (.idx (.var 10) (.lit (D.int 2)))) (.fix (cs.map colD)) ρ S) P E := by
    intro P E hp
    refine rp_lcM colD (fun c => .bl c.emp) (by omega) (fun c hc acc => ⟨_, rfl, ?_⟩) hp
    have : (ρ.set 10 (some (.t (colD c))))[10]? = some (some (.t (colD c))) := by simp [h10]
    repeat' (first
    | with_reducible refine rp_var (by with_unfolding_all rfl) ?_
    | refine rp_var this ?_
    | with_reducible refine rp_lit ?_
    | with_reducible refine rp_glb ?_
    | with_reducible refine rp_bin ?_
    | with_reducible refine rp_cmp ?_
    | with_reducible refine rp_cons ?_
    | with_reducible refine rp_nil ?_
    | with_reducible refine rp_idx ?_
    | with_reducible refine rp_call ?_
    | with_reducible refine rp_bi ?_
    | with_reducible refine rp_fz ?_
    | with_reducible refine rp_and ?_
    | with_reducible refine rp_or ?_
    | with_reducible refine rp_not ?_
    | with_reducible refine rp_ifT ?_
    | with_reducible refine rp_slc ?_
    | with_reducible refine rp_p0 ?_
    | with_reducible refine rp_p1 ?_
    | with_reducible refine rp_tup ?_
    | with_reducible refine rp_lst ?_
    | with_reducible refine rp_isi ?_
    | with_reducible refine rp_isit ?_
    | with_reducible refine rp_mth ?_
    | with_reducible refine rp_cmp2 ?_
    | with_reducible refine rp_neg ?_
    | with_reducible refine rp_t0 ?_
    | with_reducible refine rp_t1 ?_
    | with_reducible refine rp_lc ?_
    | with_reducible refine rp_lcL ?_
    | with_reducible refine rp_lstL ?_
    | with_reducible refine rp_catL ?_
    | with_reducible refine rp_listL ?_
    | with_reducible refine rp_of ?_
    | with_reducible refine rp_r1 ?_
    | with_reducible refine rp_r2 ?_
    | with_reducible refine rp_enum ?_
    | with_reducible refine rp_zip ?_
    | with_reducible refine op_nil ?_
    | with_reducible refine op_norm (by simp only [List.set_cons_succ, List.set_cons_zero, List.map_cons, List.map_nil, List.cons_append, List.nil_append]; rfl) (op_cons ?_)
    | with_reducible refine op_cons ?_
    | with_reducible refine op_asg ?_
    | with_reducible refine op_ifT ?_
    | with_reducible refine rt_and ?_
    | with_reducible refine rt_or ?_
    | with_reducible refine rt_not ?_
    | with_reducible refine rt_of ?_
    | with_reducible refine op_ret ?_
    | with_reducible refine op_new ?_
    | with_reducible refine op_app (by with_unfolding_all rfl) (by first | exact st_get | exact st_get2) ?_
    | with_reducible refine op_aug (by with_unfolding_all rfl) (by decide) ?_
    | with_reducible refine op_for ?_
    | with_reducible refine op_par ?_
    | with_reducible refine op_tp ?_
    | with_reducible refine op_seti (by with_unfolding_all rfl) ?_
    | with_reducible refine op_expr ?_
    | with_reducible refine op_doc ?_
    | with_reducible refine op_pass ?_
    | with_reducible refine op_retN ?_
    | with_reducible refine fin0 ?_
    | with_reducible refine fin1 ?_
    | with_reducible refine fino1 ?_
    | with_reducible refine fin2 ?_
    | refine ⟨_, _, _, _, rfl, st_get, lt_sz (by first | omega | (simp only [List.length_map, List.length_append, List.length_cons, List.length_nil]; omega)), st_set, ?_⟩
    | refine ⟨_, rfl, rngOk_in (by omega) (by omega), ?_⟩
    | refine ⟨_, src_live, ?_⟩
    | refine ⟨_, bi_live rfl, ?_⟩
    | (refine ⟨_, rfl, fun h => ?_, fun h => ?_⟩ <;> try (exact absurd h (by decide)))
    | refine ⟨_, rfl, ?_⟩
    | refine ⟨_, if_pos (by first | assumption | omega), ?_⟩
    | refine ⟨_, _, rfl, le_sz rfl, ?_⟩
    | refine ⟨_, _, rfl, rfl, ?_⟩
    | refine ⟨_, _, rfl, if_pos (by first | assumption | omega), ?_⟩
    | refine ⟨_, rfl, rfl, ?_⟩
    | refine ⟨rfl, ?_⟩
    | exact rfl
    | dsimp only)
  have ha : biD .any [.lst (cs.map fun c => .bl c.emp)] = some (.bl ((cs.map Col.emp).any id)) := by simp only [biD, asBls_map, Option.map_some]
  refine rp_ife ?_
  repeat' (first
    | with_reducible refine rp_var (by with_unfolding_all rfl) ?_
    | refine ⟨_, ha, ?_⟩
    | refine rp_var h6 ?_
    | refine lc ?_
    | with_reducible refine rp_lit ?_
    | with_reducible refine rp_glb ?_
    | with_reducible refine rp_bin ?_
    | with_reducible refine rp_cmp ?_
    | with_reducible refine rp_cons ?_
    | with_reducible refine rp_nil ?_
    | with_reducible refine rp_idx ?_
    | with_reducible refine rp_call ?_
    | with_reducible refine rp_bi ?_
    | with_reducible refine rp_fz ?_
    | with_reducible refine rp_and ?_
    | with_reducible refine rp_or ?_
    | with_reducible refine rp_not ?_
    | with_reducible refine rp_ifT ?_
    | with_reducible refine rp_slc ?_
    | with_reducible refine rp_p0 ?_
    | with_reducible refine rp_p1 ?_
    | with_reducible refine rp_tup ?_
    | with_reducible refine rp_lst ?_
    | with_reducible refine rp_isi ?_
    | with_reducible refine rp_isit ?_
    | with_reducible refine rp_mth ?_
    | with_reducible refine rp_cmp2 ?_
    | with_reducible refine rp_neg ?_
    | with_reducible refine rp_t0 ?_
    | with_reducible refine rp_t1 ?_
    | with_reducible refine rp_lc ?_
    | with_reducible refine rp_lcL ?_
    | with_reducible refine rp_lstL ?_
    | with_reducible refine rp_catL ?_
    | with_reducible refine rp_listL ?_
    | with_reducible refine rp_of ?_
    | with_reducible refine rp_r1 ?_
    | with_reducible refine rp_r2 ?_
    | with_reducible refine rp_enum ?_
    | with_reducible refine rp_zip ?_
    | with_reducible refine op_nil ?_
    | with_reducible refine op_norm (by simp only [List.set_cons_succ, List.set_cons_zero, List.map_cons, List.map_nil, List.cons_append, List.nil_append]; rfl) (op_cons ?_)
    | with_reducible refine op_cons ?_
    | with_reducible refine op_asg ?_
    | with_reducible refine op_ifT ?_
    | with_reducible refine rt_and ?_
    | with_reducible refine rt_or ?_
    | with_reducible refine rt_not ?_
    | with_reducible refine rt_of ?_
    | with_reducible refine op_ret ?_
    | with_reducible refine op_new ?_
    | with_reducible refine op_app (by with_unfolding_all rfl) (by first | exact st_get | exact st_get2) ?_
    | with_reducible refine op_aug (by with_unfolding_all rfl) (by decide) ?_
    | with_reducible refine op_for ?_
    | with_reducible refine op_par ?_
    | with_reducible refine op_tp ?_
    | with_reducible refine op_seti (by with_unfolding_all rfl) ?_
    | with_reducible refine op_expr ?_
    | with_reducible refine op_doc ?_
    | with_reducible refine op_pass ?_
    | with_reducible refine op_retN ?_
    | with_reducible refine fin0 ?_
    | with_reducible refine fin1 ?_
    | with_reducible refine fino1 ?_
    | with_reducible refine fin2 ?_
    | refine ⟨_, _, _, _, rfl, st_get, lt_sz (by first | omega | (simp only [List.length_map, List.length_append, List.length_cons, List.length_nil]; omega)), st_set, ?_⟩
    | refine ⟨_, rfl, rngOk_in (by omega) (by omega), ?_⟩
    | refine ⟨_, src_live, ?_⟩
    | refine ⟨_, bi_live rfl, ?_⟩
    | (refine ⟨_, rfl, fun h => ?_, fun h => ?_⟩ <;> try (exact absurd h (by decide)))
    | refine ⟨_, rfl, ?_⟩
    | refine ⟨_, if_pos (by first | assumption | omega), ?_⟩
    | refine ⟨_, _, rfl, le_sz rfl, ?_⟩
    | refine ⟨_, _, rfl, rfl, ?_⟩
    | refine ⟨_, _, rfl, if_pos (by first | assumption | omega), ?_⟩
    | refine ⟨_, rfl, rfl, ?_⟩
    | refine ⟨rfl, ?_⟩
    | exact rfl
    | dsimp only)
  · have hex : ∃ c ∈ cs, c.emp = true := by
      simp only [List.any_map, List.any_eq_true, Function.comp, id] at h
      exact h
    obtain ⟨k, e, h1, h2, h3⟩ := firstEq_true cs 0 hex
    have ho : okD (.lst (cs.map fun c => .bl c.emp)) = true := (Ok.lst (k := 0) fun x hx => by
      obtain ⟨c, _, rfl⟩ := List.mem_map.mp hx
      exact Ok.bl _).okD (by omega)
    have ho2 : okD (.bl true) = true := (Ok.bl (k := 0) true).okD (by omega)
    have hi : mthD .index (.lst (cs.map fun c => .bl c.emp)) [.bl true] = some (.int (k : Int)) := by
      simp only [mthD, ho, ho2, Bool.and_self, if_true, e, Option.map_some]
    repeat' (first
    | with_reducible refine rp_var (by with_unfolding_all rfl) ?_
    | refine ⟨_, hi, ?_⟩
    | refine rp_var h6 ?_
    | refine lc ?_
    | with_reducible refine rp_lit ?_
    | with_reducible refine rp_glb ?_
    | with_reducible refine rp_bin ?_
    | with_reducible refine rp_cmp ?_
    | with_reducible refine rp_cons ?_
    | with_reducible refine rp_nil ?_
    | with_reducible refine rp_idx ?_
    | with_reducible refine rp_call ?_
    | with_reducible refine rp_bi ?_
    | with_reducible refine rp_fz ?_
    | with_reducible refine rp_and ?_
    | with_reducible refine rp_or ?_
    | with_reducible refine rp_not ?_
    | with_reducible refine rp_ifT ?_
    | with_reducible refine rp_slc ?_
    | with_reducible refine rp_p0 ?_
    | with_reducible refine rp_p1 ?_
    | with_reducible refine rp_tup ?_
    | with_reducible refine rp_lst ?_
    | with_reducible refine rp_isi ?_
    | with_reducible refine rp_isit ?_
    | with_reducible refine rp_mth ?_
    | with_reducible refine rp_cmp2 ?_
    | with_reducible refine rp_neg ?_
    | with_reducible refine rp_t0 ?_
    | with_reducible refine rp_t1 ?_
    | with_reducible refine rp_lc ?_
    | with_reducible refine rp_lcL ?_
    | with_reducible refine rp_lstL ?_
    | with_reducible refine rp_catL ?_
    | with_reducible refine rp_listL ?_
    | with_reducible refine rp_of ?_
    | with_reducible refine rp_r1 ?_
    | with_reducible refine rp_r2 ?_
    | with_reducible refine rp_enum ?_
    | with_reducible refine rp_zip ?_
    | with_reducible refine op_nil ?_
    | with_reducible refine op_norm (by simp only [List.set_cons_succ, List.set_cons_zero, List.map_cons, List.map_nil, List.cons_append, List.nil_append]; rfl) (op_cons ?_)
    | with_reducible refine op_cons ?_
    | with_reducible refine op_asg ?_
    | with_reducible refine op_ifT ?_
    | with_reducible refine rt_and ?_
    | with_reducible refine rt_or ?_
    | with_reducible refine rt_not ?_
    | with_reducible refine rt_of ?_
    | with_reducible refine op_ret ?_
    | with_reducible refine op_new ?_
    | with_reducible refine op_app (by with_unfolding_all rfl) (by first | exact st_get | exact st_get2) ?_
    | with_reducible refine op_aug (by with_unfolding_all rfl) (by decide) ?_
    | with_reducible refine op_for ?_
    | with_reducible refine op_par ?_
    | with_reducible refine op_tp ?_
    | with_reducible refine op_seti (by with_unfolding_all rfl) ?_
    | with_reducible refine op_expr ?_
    | with_reducible refine op_doc ?_
    | with_reducible refine op_pass ?_
    | with_reducible refine op_retN ?_
    | with_reducible refine fin0 ?_
    | with_reducible refine fin1 ?_
    | with_reducible refine fino1 ?_
    | with_reducible refine fin2 ?_
    | refine ⟨_, _, _, _, rfl, st_get, lt_sz (by first | omega | (simp only [List.length_map, List.length_append, List.length_cons, List.length_nil]; omega)), st_set, ?_⟩
    | refine ⟨_, rfl, rngOk_in (by omega) (by omega), ?_⟩
    | refine ⟨_, src_live, ?_⟩
    | refine ⟨_, bi_live rfl, ?_⟩
    | (refine ⟨_, rfl, fun h => ?_, fun h => ?_⟩ <;> try (exact absurd h (by decide)))
    | refine ⟨_, rfl, ?_⟩
    | refine ⟨_, if_pos (by first | assumption | omega), ?_⟩
    | refine ⟨_, _, rfl, le_sz rfl, ?_⟩
    | refine ⟨_, _, rfl, rfl, ?_⟩
    | refine ⟨_, _, rfl, if_pos (by first | assumption | omega), ?_⟩
    | refine ⟨_, rfl, rfl, ?_⟩
    | refine ⟨rfl, ?_⟩
    | exact rfl
    | dsimp only)
    exact hP k (by omega) (by simpa using h3)
  · have hno : ∀ c ∈ cs, c.emp = false := by
      intro c hc
      cases he : c.emp with
      | false => rfl
      | true =>
        have : (cs.map Col.emp).any id = true := by
          rw [List.any_map, List.any_eq_true]
          exact ⟨c, hc, he⟩
        rw [h] at this; cases this
    repeat' (first
    | with_reducible refine rp_var (by with_unfolding_all rfl) ?_
    | refine rp_var h6 ?_
    | with_reducible refine rp_lit ?_
    | with_reducible refine rp_glb ?_
    | with_reducible refine rp_bin ?_
    | with_reducible refine rp_cmp ?_
    | with_reducible refine rp_cons ?_
    | with_reducible refine rp_nil ?_
    | with_reducible refine rp_idx ?_
    | with_reducible refine rp_call ?_
    | with_reducible refine rp_bi ?_
    | with_reducible refine rp_fz ?_
    | with_reducible refine rp_and ?_
    | with_reducible refine rp_or ?_
    | with_reducible refine rp_not ?_
    | with_reducible refine rp_ifT ?_
    | with_reducible refine rp_slc ?_
    | with_reducible refine rp_p0 ?_
    | with_reducible refine rp_p1 ?_
    | with_reducible refine rp_tup ?_
    | with_reducible refine rp_lst ?_
    | with_reducible refine rp_isi ?_
    | with_reducible refine rp_isit ?_
    | with_reducible refine rp_mth ?_
    | with_reducible refine rp_cmp2 ?_
    | with_reducible refine rp_neg ?_
    | with_reducible refine rp_t0 ?_
    | with_reducible refine rp_t1 ?_
    | with_reducible refine rp_lc ?_
    | with_reducible refine rp_lcL ?_
    | with_reducible refine rp_lstL ?_
    | with_reducible refine rp_catL ?_
    | with_reducible refine rp_listL ?_
    | with_reducible refine rp_of ?_
    | with_reducible refine rp_r1 ?_
    | with_reducible refine rp_r2 ?_
    | with_reducible refine rp_enum ?_
    | with_reducible refine rp_zip ?_
    | with_reducible refine op_nil ?_
    | with_reducible refine op_norm (by simp only [List.set_cons_succ, List.set_cons_zero, List.map_cons, List.map_nil, List.cons_append, List.nil_append]; rfl) (op_cons ?_)
    | with_reducible refine op_cons ?_
    | with_reducible refine op_asg ?_
    | with_reducible refine op_ifT ?_
    | with_reducible refine rt_and ?_
    | with_reducible refine rt_or ?_
    | with_reducible refine rt_not ?_
    | with_reducible refine rt_of ?_
    | with_reducible refine op_ret ?_
    | with_reducible refine op_new ?_
    | with_reducible refine op_app (by with_unfolding_all rfl) (by first | exact st_get | exact st_get2) ?_
    | with_reducible refine op_aug (by with_unfolding_all rfl) (by decide) ?_
    | with_reducible refine op_for ?_
    | with_reducible refine op_par ?_
    | with_reducible refine op_tp ?_
    | with_reducible refine op_seti (by with_unfolding_all rfl) ?_
    | with_reducible refine op_expr ?_
    | with_reducible refine op_doc ?_
    | with_reducible refine op_pass ?_
    | with_reducible refine op_retN ?_
    | with_reducible refine fin0 ?_
    | with_reducible refine fin1 ?_
    | with_reducible refine fino1 ?_
    | with_reducible refine fin2 ?_
    | refine ⟨_, _, _, _, rfl, st_get, lt_sz (by first | omega | (simp only [List.length_map, List.length_append, List.length_cons, List.length_nil]; omega)), st_set, ?_⟩
    | refine ⟨_, rfl, rngOk_in (by omega) (by omega), ?_⟩
    | refine ⟨_, src_live, ?_⟩
    | refine ⟨_, bi_live rfl, ?_⟩
    | (refine ⟨_, rfl, fun h => ?_, fun h => ?_⟩ <;> try (exact absurd h (by decide)))
    | refine ⟨_, rfl, ?_⟩
    | refine ⟨_, if_pos (by first | assumption | omega), ?_⟩
    | refine ⟨_, _, rfl, le_sz rfl, ?_⟩
    | refine ⟨_, _, rfl, rfl, ?_⟩
    | refine ⟨_, _, rfl, if_pos (by first | assumption | omega), ?_⟩
    | refine ⟨_, rfl, rfl, ?_⟩
    | refine ⟨rfl, ?_⟩
    | exact rfl
    | dsimp only)
    rw [List.length_map]
    exact hP cs.length (Nat.le_refl _) fun c hc => hno c (List.mem_of_mem_take hc)
theorem ground_ok {T : List Fn} {i iC iN : Nat} (hT : T[i]? = some (f__law_ground iC iN)) (hC : T[iC]? = some (f__law_columns iN)) (hN : T[iN]? = some f__law_name) (n : Nat) (ps : List Int) (top : Int) (hl : 145 ≤ ps.length) (hb : ∀ x ∈ ps, 0 ≤ x ∧ x < 1000) (ht : 1 ≤ top ∧ top < 1073741824) (S : St') :
    RP (FT T (n + 3) i [.t (.lst (ps.map .int)), .t (.int top)] S) (fun v S' => S' = S ∧ ∃ us : List Tab, v = .t (.tup ((us.mergeSort tabLe).map tabD)) ∧ GroundOk us top) noE := by
  have g0 : idxD (.lst (ps.map .int)) (.int 0) = some (.int (sget ps 0)) := at_int (j := 0) (by omega)
  have b0 := hb _ (sget_mem (ss := ps) (j := 0) (by omega))
  refine rp_fn hT rfl rfl ?_
  simp only [f__law_ground, pad]
  repeat' (first
    | with_reducible refine rp_var (by with_unfolding_all rfl) ?_
    | refine ⟨_, g0, ?_⟩
    | with_reducible refine rp_lit ?_
    | with_reducible refine rp_glb ?_
    | with_reducible refine rp_bin ?_
    | with_reducible refine rp_cmp ?_
    | with_reducible refine rp_cons ?_
    | with_reducible refine rp_nil ?_
    | with_reducible refine rp_idx ?_
    | with_reducible refine rp_call ?_
    | with_reducible refine rp_bi ?_
    | with_reducible refine rp_fz ?_
    | with_reducible refine rp_and ?_
    | with_reducible refine rp_or ?_
    | with_reducible refine rp_not ?_
    | with_reducible refine rp_ifT ?_
    | with_reducible refine rp_slc ?_
    | with_reducible refine rp_p0 ?_
    | with_reducible refine rp_p1 ?_
    | with_reducible refine rp_tup ?_
    | with_reducible refine rp_lst ?_
    | with_reducible refine rp_isi ?_
    | with_reducible refine rp_isit ?_
    | with_reducible refine rp_mth ?_
    | with_reducible refine rp_cmp2 ?_
    | with_reducible refine rp_neg ?_
    | with_reducible refine rp_t0 ?_
    | with_reducible refine rp_t1 ?_
    | with_reducible refine rp_lc ?_
    | with_reducible refine rp_lcL ?_
    | with_reducible refine rp_lstL ?_
    | with_reducible refine rp_catL ?_
    | with_reducible refine rp_listL ?_
    | with_reducible refine rp_of ?_
    | with_reducible refine rp_r1 ?_
    | with_reducible refine rp_r2 ?_
    | with_reducible refine rp_enum ?_
    | with_reducible refine rp_zip ?_
    | with_reducible refine op_nil ?_
    | with_reducible refine op_norm (by simp only [List.set_cons_succ, List.set_cons_zero, List.map_cons, List.map_nil, List.cons_append, List.nil_append]; rfl) (op_cons ?_)
    | with_reducible refine op_cons ?_
    | with_reducible refine op_asg ?_
    | with_reducible refine op_ifT ?_
    | with_reducible refine rt_and ?_
    | with_reducible refine rt_or ?_
    | with_reducible refine rt_not ?_
    | with_reducible refine rt_of ?_
    | with_reducible refine op_ret ?_
    | with_reducible refine op_new ?_
    | with_reducible refine op_app (by with_unfolding_all rfl) (by first | exact st_get | exact st_get2) ?_
    | with_reducible refine op_aug (by with_unfolding_all rfl) (by decide) ?_
    | with_reducible refine op_for ?_
    | with_reducible refine op_par ?_
    | with_reducible refine op_tp ?_
    | with_reducible refine op_seti (by with_unfolding_all rfl) ?_
    | with_reducible refine op_expr ?_
    | with_reducible refine op_doc ?_
    | with_reducible refine op_pass ?_
    | with_reducible refine op_retN ?_
    | with_reducible refine fin0 ?_
    | with_reducible refine fin1 ?_
    | with_reducible refine fino1 ?_
    | with_reducible refine fin2 ?_
    | refine ⟨_, _, _, _, rfl, st_get, lt_sz (by first | omega | (simp only [List.length_map, List.length_append, List.length_cons, List.length_nil]; omega)), st_set, ?_⟩
    | refine ⟨_, rfl, rngOk_in (by omega) (by omega), ?_⟩
    | refine ⟨_, src_live, ?_⟩
    | refine ⟨_, bi_live rfl, ?_⟩
    | (refine ⟨_, rfl, fun h => ?_, fun h => ?_⟩ <;> try (exact absurd h (by decide)))
    | refine ⟨_, rfl, ?_⟩
    | refine ⟨_, if_pos (by first | assumption | omega), ?_⟩
    | refine ⟨_, _, rfl, le_sz rfl, ?_⟩
    | refine ⟨_, _, rfl, rfl, ?_⟩
    | refine ⟨_, _, rfl, if_pos (by first | assumption | omega), ?_⟩
    | refine ⟨_, rfl, rfl, ?_⟩
    | refine ⟨rfl, ?_⟩
    | exact rfl
    | dsimp only)
  refine op_fix (fun l ρ S' => ∃ (k : Int) (ts : List Tab) (k4 k5 k6 k7 k8 k9 : Option SV), 0 ≤ k ∧ k ≤ 1 + sget ps 0 % 4 ∧ l = rangeD k (1 + sget ps 0 % 4) ∧ ρ = [some (.t (.lst (ps.map .int))), some (.t (.int top)), some (.o S.length), some (.t (.int (top - roomsOf ts))), k4, k5, k6, k7, k8, k9, none] ∧ S' = S ++ [.lst (ts.map tabD)] ∧ (ts.length : Int) ≤ k ∧ (1 ≤ k → 1 ≤ ts.length) ∧ (ts.length = 0 → roomsOf ts = 0) ∧ (∀ t ∈ ts, TabOk t) ∧ (ts.map Tab.name).Nodup ∧ 0 ≤ roomsOf ts ∧ roomsOf ts ≤ top) ?_ ?_ ?_
  · exact ⟨0, [], none, none, none, none, none, none, by omega, by omega, rfl, by simp [roomsOf], rfl, by simp, by omega, fun _ => rfl, by simp, by simp, by simp [roomsOf], by simp [roomsOf]; omega⟩
  · rintro d ds ρ S' ⟨k, ts, k4, k5, k6, k7, k8, k9, hk0, hk, hl', rfl, rfl, hcl, hk1, hz, hts, hnd, hr1, hr2⟩
    have hlt : k < 1 + sget ps 0 % 4 := by
      rcases Int.lt_or_le k (1 + sget ps 0 % 4) with h | h
      · exact h
      · rw [rangeD_nil h] at hl'; cases hl'
    rw [rangeD_cons hlt] at hl'
    cases hl'
    obtain ⟨ss, hss⟩ : ∃ ss, ss = cutL ps (some (1 + 36 * k)) (some (37 + 36 * k)) := ⟨_, rfl⟩
    have hsl : ss.length = 36 := by
      have := cutL_len (xs := ps) (a := 1 + 36 * k) (b := 37 + 36 * k) (by omega) (by omega) (by omega)
      rw [← hss] at this
      omega
    have hsb : ∀ x ∈ ss, 0 ≤ x ∧ x < 1000 := fun x hx => hb x (cutL_mem (hss ▸ hx))
    have g : slcD (.lst (ps.map .int)) (some (1 + 36 * k)) (some (37 + 36 * k)) = some (.lst (ss.map .int)) := by rw [hss]; exact slc_ints _ _ _
    have g5 : idxD (.lst (ss.map .int)) (.int 5) = some (.int (sget ss 5)) := at_int (j := 5) (by omega)
    have g6 : idxD (.lst (ss.map .int)) (.int 6) = some (.int (sget ss 6)) := at_int (j := 6) (by omega)
    have b5 := hsb _ (sget_mem (ss := ss) (j := 5) (by omega))
    have b6 := hsb _ (sget_mem (ss := ss) (j := 6) (by omega))
    have g7 : slcD (.lst (ss.map .int)) (some 7) none = some (.lst ((cutL ss (some 7) none).map .int)) := slc_ints _ _ _
    have l7 := cutL_from (xs := ss) (a := 7) (by omega) (by omega)
    refine ⟨_, rfl, ?_⟩
    repeat' (first
    | with_reducible refine rp_var (by with_unfolding_all rfl) ?_
    | refine ⟨_, g, ?_⟩
    | refine ⟨_, g5, ?_⟩
    | refine ⟨_, g6, ?_⟩
    | refine ⟨_, g7, ?_⟩
    | with_reducible refine rp_lit ?_
    | with_reducible refine rp_glb ?_
    | with_reducible refine rp_bin ?_
    | with_reducible refine rp_cmp ?_
    | with_reducible refine rp_cons ?_
    | with_reducible refine rp_nil ?_
    | with_reducible refine rp_idx ?_
    | with_reducible refine rp_call ?_
    | with_reducible refine rp_bi ?_
    | with_reducible refine rp_fz ?_
    | with_reducible refine rp_and ?_
    | with_reducible refine rp_or ?_
    | with_reducible refine rp_not ?_
    | with_reducible refine rp_ifT ?_
    | with_reducible refine rp_slc ?_
    | with_reducible refine rp_p0 ?_
    | with_reducible refine rp_p1 ?_
    | with_reducible refine rp_tup ?_
    | with_reducible refine rp_lst ?_
    | with_reducible refine rp_isi ?_
    | with_reducible refine rp_isit ?_
    | with_reducible refine rp_mth ?_
    | with_reducible refine rp_cmp2 ?_
    | with_reducible refine rp_neg ?_
    | with_reducible refine rp_t0 ?_
    | with_reducible refine rp_t1 ?_
    | with_reducible refine rp_lc ?_
    | with_reducible refine rp_lcL ?_
    | with_reducible refine rp_lstL ?_
    | with_reducible refine rp_catL ?_
    | with_reducible refine rp_listL ?_
    | with_reducible refine rp_of ?_
    | with_reducible refine rp_r1 ?_
    | with_reducible refine rp_r2 ?_
    | with_reducible refine rp_enum ?_
    | with_reducible refine rp_zip ?_
    | with_reducible refine op_nil ?_
    | with_reducible refine op_norm (by simp only [List.set_cons_succ, List.set_cons_zero, List.map_cons, List.map_nil, List.cons_append, List.nil_append]; rfl) (op_cons ?_)
    | with_reducible refine op_cons ?_
    | with_reducible refine op_asg ?_
    | with_reducible refine op_ifT ?_
    | with_reducible refine rt_and ?_
    | with_reducible refine rt_or ?_
    | with_reducible refine rt_not ?_
    | with_reducible refine rt_of ?_
    | with_reducible refine op_ret ?_
    | with_reducible refine op_new ?_
    | with_reducible refine op_app (by with_unfolding_all rfl) (by first | exact st_get | exact st_get2) ?_
    | with_reducible refine op_aug (by with_unfolding_all rfl) (by decide) ?_
    | with_reducible refine op_for ?_
    | with_reducible refine op_par ?_
    | with_reducible refine op_tp ?_
    | with_reducible refine op_seti (by with_unfolding_all rfl) ?_
    | with_reducible refine op_expr ?_
    | with_reducible refine op_doc ?_
    | with_reducible refine op_pass ?_
    | with_reducible refine op_retN ?_
    | with_reducible refine fin0 ?_
    | with_reducible refine fin1 ?_
    | with_reducible refine fino1 ?_
    | with_reducible refine fin2 ?_
    | refine ⟨_, _, _, _, rfl, st_get, lt_sz (by first | omega | (simp only [List.length_map, List.length_append, List.length_cons, List.length_nil]; omega)), st_set, ?_⟩
    | refine ⟨_, rfl, rngOk_in (by omega) (by omega), ?_⟩
    | refine ⟨_, src_live, ?_⟩
    | refine ⟨_, bi_live rfl, ?_⟩
    | (refine ⟨_, rfl, fun h => ?_, fun h => ?_⟩ <;> try (exact absurd h (by decide)))
    | refine ⟨_, rfl, ?_⟩
    | refine ⟨_, if_pos (by first | assumption | omega), ?_⟩
    | refine ⟨_, _, rfl, le_sz rfl, ?_⟩
    | refine ⟨_, _, rfl, rfl, ?_⟩
    | refine ⟨_, _, rfl, if_pos (by first | assumption | omega), ?_⟩
    | refine ⟨_, rfl, rfl, ?_⟩
    | refine ⟨rfl, ?_⟩
    | exact rfl
    | dsimp only)
    · have h := of_decide_eq_true h
      refine RP.of_no (columns_ok hC hN n (cutL ss (some 7) none) _ _ (by omega) (by omega) (fun x hx => hsb x (cutL_mem hx)) (by omega) _) fun v S1 ⟨e, cs, ev, c1, c2, c3, c4⟩ => ?_
      subst e; subst ev
      repeat' (first
    | with_reducible refine rp_var (by with_unfolding_all rfl) ?_
    | refine ⟨_, g, ?_⟩
    | refine ⟨_, g5, ?_⟩
    | refine ⟨_, g6, ?_⟩
    | refine ⟨_, g7, ?_⟩
    | refine key_ok rfl rfl (by omega) fun key hkl hke => ?_
    | with_reducible refine rp_lit ?_
    | with_reducible refine rp_glb ?_
    | with_reducible refine rp_bin ?_
    | with_reducible refine rp_cmp ?_
    | with_reducible refine rp_cons ?_
    | with_reducible refine rp_nil ?_
    | with_reducible refine rp_idx ?_
    | with_reducible refine rp_call ?_
    | with_reducible refine rp_bi ?_
    | with_reducible refine rp_fz ?_
    | with_reducible refine rp_and ?_
    | with_reducible refine rp_or ?_
    | with_reducible refine rp_not ?_
    | with_reducible refine rp_ifT ?_
    | with_reducible refine rp_slc ?_
    | with_reducible refine rp_p0 ?_
    | with_reducible refine rp_p1 ?_
    | with_reducible refine rp_tup ?_
    | with_reducible refine rp_lst ?_
    | with_reducible refine rp_isi ?_
    | with_reducible refine rp_isit ?_
    | with_reducible refine rp_mth ?_
    | with_reducible refine rp_cmp2 ?_
    | with_reducible refine rp_neg ?_
    | with_reducible refine rp_t0 ?_
    | with_reducible refine rp_t1 ?_
    | with_reducible refine rp_lc ?_
    | with_reducible refine rp_lcL ?_
    | with_reducible refine rp_lstL ?_
    | with_reducible refine rp_catL ?_
    | with_reducible refine rp_listL ?_
    | with_reducible refine rp_of ?_
    | with_reducible refine rp_r1 ?_
    | with_reducible refine rp_r2 ?_
    | with_reducible refine rp_enum ?_
    | with_reducible refine rp_zip ?_
    | with_reducible refine op_nil ?_
    | with_reducible refine op_norm (by simp only [List.set_cons_succ, List.set_cons_zero, List.map_cons, List.map_nil, List.cons_append, List.nil_append]; rfl) (op_cons ?_)
    | with_reducible refine op_cons ?_
    | with_reducible refine op_asg ?_
    | with_reducible refine op_ifT ?_
    | with_reducible refine rt_and ?_
    | with_reducible refine rt_or ?_
    | with_reducible refine rt_not ?_
    | with_reducible refine rt_of ?_
    | with_reducible refine op_ret ?_
    | with_reducible refine op_new ?_
    | with_reducible refine op_app (by with_unfolding_all rfl) (by first | exact st_get | exact st_get2) ?_
    | with_reducible refine op_aug (by with_unfolding_all rfl) (by decide) ?_
    | with_reducible refine op_for ?_
    | with_reducible refine op_par ?_
    | with_reducible refine op_tp ?_
    | with_reducible refine op_seti (by with_unfolding_all rfl) ?_
    | with_reducible refine op_expr ?_
    | with_reducible refine op_doc ?_
    | with_reducible refine op_pass ?_
    | with_reducible refine op_retN ?_
    | with_reducible refine fin0 ?_
    | with_reducible refine fin1 ?_
    | with_reducible refine fino1 ?_
    | with_reducible refine fin2 ?_
    | refine ⟨_, _, _, _, rfl, st_get, lt_sz (by first | omega | (simp only [List.length_map, List.length_append, List.length_cons, List.length_nil]; omega)), st_set, ?_⟩
    | refine ⟨_, rfl, rngOk_in (by omega) (by omega), ?_⟩
    | refine ⟨_, src_live, ?_⟩
    | refine ⟨_, bi_live rfl, ?_⟩
    | (refine ⟨_, rfl, fun h => ?_, fun h => ?_⟩ <;> try (exact absurd h (by decide)))
    | refine ⟨_, rfl, ?_⟩
    | refine ⟨_, if_pos (by first | assumption | omega), ?_⟩
    | refine ⟨_, _, rfl, le_sz rfl, ?_⟩
    | refine ⟨_, _, rfl, rfl, ?_⟩
    | refine ⟨_, _, rfl, if_pos (by first | assumption | omega), ?_⟩
    | refine ⟨_, rfl, rfl, ?_⟩
    | refine ⟨rfl, ?_⟩
    | exact rfl
    | dsimp only)
      refine rp_lcV tabD (fun t => .str t.name) st_get (by omega) (fun c hc acc => ?_) ?_
      · refine ⟨_, rfl, ?_⟩
        repeat' (first
    | with_reducible refine rp_var (by with_unfolding_all rfl) ?_
    | with_reducible refine rp_lit ?_
    | with_reducible refine rp_glb ?_
    | with_reducible refine rp_bin ?_
    | with_reducible refine rp_cmp ?_
    | with_reducible refine rp_cons ?_
    | with_reducible refine rp_nil ?_
    | with_reducible refine rp_idx ?_
    | with_reducible refine rp_call ?_
    | with_reducible refine rp_bi ?_
    | with_reducible refine rp_fz ?_
    | with_reducible refine rp_and ?_
    | with_reducible refine rp_or ?_
    | with_reducible refine rp_not ?_
    | with_reducible refine rp_ifT ?_
    | with_reducible refine rp_slc ?_
    | with_reducible refine rp_p0 ?_
    | with_reducible refine rp_p1 ?_
    | with_reducible refine rp_tup ?_
    | with_reducible refine rp_lst ?_
    | with_reducible refine rp_isi ?_
    | with_reducible refine rp_isit ?_
    | with_reducible refine rp_mth ?_
    | with_reducible refine rp_cmp2 ?_
    | with_reducible refine rp_neg ?_
    | with_reducible refine rp_t0 ?_
    | with_reducible refine rp_t1 ?_
    | with_reducible refine rp_lc ?_
    | with_reducible refine rp_lcL ?_
    | with_reducible refine rp_lstL ?_
    | with_reducible refine rp_catL ?_
    | with_reducible refine rp_listL ?_
    | with_reducible refine rp_of ?_
    | with_reducible refine rp_r1 ?_
    | with_reducible refine rp_r2 ?_
    | with_reducible refine rp_enum ?_
    | with_reducible refine rp_zip ?_
    | with_reducible refine op_nil ?_
    | with_reducible refine op_norm (by simp only [List.set_cons_succ, List.set_cons_zero, List.map_cons, List.map_nil, List.cons_append, List.nil_append]; rfl) (op_cons ?_)
    | with_reducible refine op_cons ?_
    | with_reducible refine op_asg ?_
    | with_reducible refine op_ifT ?_
    | with_reducible refine rt_and ?_
    | with_reducible refine rt_or ?_
    | with_reducible refine rt_not ?_
    | with_reducible refine rt_of ?_
    | with_reducible refine op_ret ?_
    | with_reducible refine op_new ?_
    | with_reducible refine op_app (by with_unfolding_all rfl) (by first | exact st_get | exact st_get2) ?_
    | with_reducible refine op_aug (by with_unfolding_all rfl) (by decide) ?_
    | with_reducible refine op_for ?_
    | with_reducible refine op_par ?_
    | with_reducible refine op_tp ?_
    | with_reducible refine op_seti (by with_unfolding_all rfl) ?_
    | with_reducible refine op_expr ?_
    | with_reducible refine op_doc ?_
    | with_reducible refine op_pass ?_
    | with_reducible refine op_retN ?_
    | with_reducible refine fin0 ?_
    | with_reducible refine fin1 ?_
    | with_reducible refine fino1 ?_
    | with_reducible refine fin2 ?_
    | refine ⟨_, _, _, _, rfl, st_get, lt_sz (by first | omega | (simp only [List.length_map, List.length_append, List.length_cons, List.length_nil]; omega)), st_set, ?_⟩
    | refine ⟨_, rfl, rngOk_in (by omega) (by omega), ?_⟩
    | refine ⟨_, src_live, ?_⟩
    | refine ⟨_, bi_live rfl, ?_⟩
    | (refine ⟨_, rfl, fun h => ?_, fun h => ?_⟩ <;> try (exact absurd h (by decide)))
    | refine ⟨_, rfl, ?_⟩
    | refine ⟨_, if_pos (by first | assumption | omega), ?_⟩
    | refine ⟨_, _, rfl, le_sz rfl, ?_⟩
    | refine ⟨_, _, rfl, rfl, ?_⟩
    | refine ⟨_, _, rfl, if_pos (by first | assumption | omega), ?_⟩
    | refine ⟨_, rfl, rfl, ?_⟩
    | refine ⟨rfl, ?_⟩
    | exact rfl
    | dsimp only)
      · rw [tnames_map]
        repeat' (first
    | with_reducible refine rp_var (by with_unfolding_all rfl) ?_
    | with_reducible refine rp_lit ?_
    | with_reducible refine rp_glb ?_
    | with_reducible refine rp_bin ?_
    | with_reducible refine rp_cmp ?_
    | with_reducible refine rp_cons ?_
    | with_reducible refine rp_nil ?_
    | with_reducible refine rp_idx ?_
    | with_reducible refine rp_call ?_
    | with_reducible refine rp_bi ?_
    | with_reducible refine rp_fz ?_
    | with_reducible refine rp_and ?_
    | with_reducible refine rp_or ?_
    | with_reducible refine rp_not ?_
    | with_reducible refine rp_ifT ?_
    | with_reducible refine rp_slc ?_
    | with_reducible refine rp_p0 ?_
    | with_reducible refine rp_p1 ?_
    | with_reducible refine rp_tup ?_
    | with_reducible refine rp_lst ?_
    | with_reducible refine rp_isi ?_
    | with_reducible refine rp_isit ?_
    | with_reducible refine rp_mth ?_
    | with_reducible refine rp_cmp2 ?_
    | with_reducible refine rp_neg ?_
    | with_reducible refine rp_t0 ?_
    | with_reducible refine rp_t1 ?_
    | with_reducible refine rp_lc ?_
    | with_reducible refine rp_lcL ?_
    | with_reducible refine rp_lstL ?_
    | with_reducible refine rp_catL ?_
    | with_reducible refine rp_listL ?_
    | with_reducible refine rp_of ?_
    | with_reducible refine rp_r1 ?_
    | with_reducible refine rp_r2 ?_
    | with_reducible refine rp_enum ?_
    | with_reducible refine rp_zip ?_
    | with_reducible refine op_nil ?_
    | with_reducible refine op_norm (by simp only [List.set_cons_succ, List.set_cons_zero, List.map_cons, List.map_nil, List.cons_append, List.nil_append]; rfl) (op_cons ?_)
    | with_reducible refine op_cons ?_
    | with_reducible refine op_asg ?_
    | with_reducible refine op_ifT ?_
    | with_reducible refine rt_and ?_
    | with_reducible refine rt_or ?_
    | with_reducible refine rt_not ?_
    | with_reducible refine rt_of ?_
    | with_reducible refine op_ret ?_
    | with_reducible refine op_new ?_
    | with_reducible refine op_app (by with_unfolding_all rfl) (by first | exact st_get | exact st_get2) ?_
    | with_reducible refine op_aug (by with_unfolding_all rfl) (by decide) ?_
    | with_reducible refine op_for ?_
    | with_reducible refine op_par ?_
    | with_reducible refine op_tp ?_
    | with_reducible refine op_seti (by with_unfolding_all rfl) ?_
    | with_reducible refine op_expr ?_
    | with_reducible refine op_doc ?_
    | with_reducible refine op_pass ?_
    | with_reducible refine op_retN ?_
    | with_reducible refine fin0 ?_
    | with_reducible refine fin1 ?_
    | with_reducible refine fino1 ?_
    | with_reducible refine fin2 ?_
    | refine ⟨_, _, _, _, rfl, st_get, lt_sz (by first | omega | (simp only [List.length_map, List.length_append, List.length_cons, List.length_nil]; omega)), st_set, ?_⟩
    | refine ⟨_, rfl, rngOk_in (by omega) (by omega), ?_⟩
    | refine ⟨_, src_live, ?_⟩
    | refine ⟨_, bi_live rfl, ?_⟩
    | (refine ⟨_, rfl, fun h => ?_, fun h => ?_⟩ <;> try (exact absurd h (by decide)))
    | refine ⟨_, rfl, ?_⟩
    | refine ⟨_, if_pos (by first | assumption | omega), ?_⟩
    | refine ⟨_, _, rfl, le_sz rfl, ?_⟩
    | refine ⟨_, _, rfl, rfl, ?_⟩
    | refine ⟨_, _, rfl, if_pos (by first | assumption | omega), ?_⟩
    | refine ⟨_, rfl, rfl, ?_⟩
    | refine ⟨rfl, ?_⟩
    | exact rfl
    | dsimp only)
        refine RP.of_no (name_ok hN (n + 1) ss (by omega) hsb (ts.map Tab.name) (by simp; omega) (fun t ht => ?_) _) fun v' S1 ⟨e, w, ev, hw, hwn⟩ => ?_
        · obtain ⟨c, hc, rfl⟩ := List.mem_map.mp ht
          exact (hts c hc).name.let_.ok
        · subst e; subst ev
          repeat' (first
    | with_reducible refine rp_var (by with_unfolding_all rfl) ?_
    | refine ⟨_, g, ?_⟩
    | refine ⟨_, g5, ?_⟩
    | refine ⟨_, g6, ?_⟩
    | refine ⟨_, g7, ?_⟩
    | with_reducible refine rp_lit ?_
    | with_reducible refine rp_glb ?_
    | with_reducible refine rp_bin ?_
    | with_reducible refine rp_cmp ?_
    | with_reducible refine rp_cons ?_
    | with_reducible refine rp_nil ?_
    | with_reducible refine rp_idx ?_
    | with_reducible refine rp_call ?_
    | with_reducible refine rp_bi ?_
    | with_reducible refine rp_fz ?_
    | with_reducible refine rp_and ?_
    | with_reducible refine rp_or ?_
    | with_reducible refine rp_not ?_
    | with_reducible refine rp_ifT ?_
    | with_reducible refine rp_slc ?_
    | with_reducible refine rp_p0 ?_
    | with_reducible refine rp_p1 ?_
    | with_reducible refine rp_tup ?_
    | with_reducible refine rp_lst ?_
    | with_reducible refine rp_isi ?_
    | with_reducible refine rp_isit ?_
    | with_reducible refine rp_mth ?_
    | with_reducible refine rp_cmp2 ?_
    | with_reducible refine rp_neg ?_
    | with_reducible refine rp_t0 ?_
    | with_reducible refine rp_t1 ?_
    | with_reducible refine rp_lc ?_
    | with_reducible refine rp_lcL ?_
    | with_reducible refine rp_lstL ?_
    | with_reducible refine rp_catL ?_
    | with_reducible refine rp_listL ?_
    | with_reducible refine rp_of ?_
    | with_reducible refine rp_r1 ?_
    | with_reducible refine rp_r2 ?_
    | with_reducible refine rp_enum ?_
    | with_reducible refine rp_zip ?_
    | with_reducible refine op_nil ?_
    | with_reducible refine op_norm (by simp only [List.set_cons_succ, List.set_cons_zero, List.map_cons, List.map_nil, List.cons_append, List.nil_append]; rfl) (op_cons ?_)
    | with_reducible refine op_cons ?_
    | with_reducible refine op_asg ?_
    | with_reducible refine op_ifT ?_
    | with_reducible refine rt_and ?_
    | with_reducible refine rt_or ?_
    | with_reducible refine rt_not ?_
    | with_reducible refine rt_of ?_
    | with_reducible refine op_ret ?_
    | with_reducible refine op_new ?_
    | with_reducible refine op_app (by with_unfolding_all rfl) (by first | exact st_get | exact st_get2) ?_
    | with_reducible refine op_aug (by with_unfolding_all rfl) (by decide) ?_
    | with_reducible refine op_for ?_
    | with_reducible refine op_par ?_
    | with_reducible refine op_tp ?_
    | with_reducible refine op_seti (by with_unfolding_all rfl) ?_
    | with_reducible refine op_expr ?_
    | with_reducible refine op_doc ?_
    | with_reducible refine op_pass ?_
    | with_reducible refine op_retN ?_
    | with_reducible refine fin0 ?_
    | with_reducible refine fin1 ?_
    | with_reducible refine fino1 ?_
    | with_reducible refine fin2 ?_
    | refine ⟨_, _, _, _, rfl, st_get, lt_sz (by first | omega | (simp only [List.length_map, List.length_append, List.length_cons, List.length_nil]; omega)), st_set, ?_⟩
    | refine ⟨_, rfl, rngOk_in (by omega) (by omega), ?_⟩
    | refine ⟨_, src_live, ?_⟩
    | refine ⟨_, bi_live rfl, ?_⟩
    | (refine ⟨_, rfl, fun h => ?_, fun h => ?_⟩ <;> try (exact absurd h (by decide)))
    | refine ⟨_, rfl, ?_⟩
    | refine ⟨_, if_pos (by first | assumption | omega), ?_⟩
    | refine ⟨_, _, rfl, le_sz rfl, ?_⟩
    | refine ⟨_, _, rfl, rfl, ?_⟩
    | refine ⟨_, _, rfl, if_pos (by first | assumption | omega), ?_⟩
    | refine ⟨_, rfl, rfl, ?_⟩
    | refine ⟨rfl, ?_⟩
    | exact rfl
    | dsimp only)
          have hm0 := Int.emod_nonneg (sget ss 6) (show ((key : Int) + 1) ≠ 0 by omega)
          have hm1 := Int.emod_lt_of_pos (sget ss 6) (show 0 < (key : Int) + 1 by omega)
          refine ⟨k + 1, ts ++ [⟨w, sget ss 6 % ((key : Int) + 1), cs⟩], _, _, _, _, _, _, by omega, by omega, rfl, by rw [roomsOf_app, Int.sub_sub]; rfl, by rw [List.map_append]; rfl, by simp; omega, by simp, by simp, ?_, ?_, ?_, ?_⟩
          · intro t ht
            rcases List.mem_append.mp ht with ht | ht
            · exact hts t ht
            · cases List.mem_singleton.mp ht
              refine ⟨hw, hm0, fun c hc => hke c ?_, ?_, c2, ?_, ?_, c3⟩
              · have hle : (sget ss 6 % ((key : Int) + 1)).toNat ≤ key := by omega
                exact (List.take_sublist_take_left hle).subset hc
              · show sget ss 6 % ((key : Int) + 1) ≤ (cs.length : Int); omega
              · show 1 ≤ cs.length; omega
              · show cs.length ≤ 4; omega
          · rw [List.map_append, List.nodup_append]
            refine ⟨hnd, by simp, fun a ha c hc => ?_⟩
            simp at hc
            subst hc
            intro e
            exact hwn (e ▸ ha)
          · rw [roomsOf_app]; show 0 ≤ _ + roomOf cs; omega
          · rw [roomsOf_app]; show _ + roomOf cs ≤ _; omega
    · have h := of_decide_eq_false h
      refine ⟨k + 1, ts, _, _, _, _, _, _, by omega, by omega, rfl, rfl, rfl, by omega, fun _ => ?_, hz, hts, hnd, hr1, hr2⟩
      apply Classical.byContradiction
      intro h0
      have := hz (by omega)
      omega
  · rintro ρ S' ⟨k, ts, k4, k5, k6, k7, k8, k9, hk0, hk, hl', rfl, rfl, hcl, hk1, hz, hts, hnd, hr1, hr2⟩
    have hk : k = 1 + sget ps 0 % 4 := by
      rcases Int.lt_or_le k (1 + sget ps 0 % 4) with h | h
      · rw [rangeD_cons h] at hl'; cases hl'
      · omega
    have hs := sort_tabs hts (by omega)
    repeat' (first
    | with_reducible refine rp_var (by with_unfolding_all rfl) ?_
    | refine ⟨_, bi_live hs, ?_⟩
    | with_reducible refine rp_lit ?_
    | with_reducible refine rp_glb ?_
    | with_reducible refine rp_bin ?_
    | with_reducible refine rp_cmp ?_
    | with_reducible refine rp_cons ?_
    | with_reducible refine rp_nil ?_
    | with_reducible refine rp_idx ?_
    | with_reducible refine rp_call ?_
    | with_reducible refine rp_bi ?_
    | with_reducible refine rp_fz ?_
    | with_reducible refine rp_and ?_
    | with_reducible refine rp_or ?_
    | with_reducible refine rp_not ?_
    | with_reducible refine rp_ifT ?_
    | with_reducible refine rp_slc ?_
    | with_reducible refine rp_p0 ?_
    | with_reducible refine rp_p1 ?_
    | with_reducible refine rp_tup ?_
    | with_reducible refine rp_lst ?_
    | with_reducible refine rp_isi ?_
    | with_reducible refine rp_isit ?_
    | with_reducible refine rp_mth ?_
    | with_reducible refine rp_cmp2 ?_
    | with_reducible refine rp_neg ?_
    | with_reducible refine rp_t0 ?_
    | with_reducible refine rp_t1 ?_
    | with_reducible refine rp_lc ?_
    | with_reducible refine rp_lcL ?_
    | with_reducible refine rp_lstL ?_
    | with_reducible refine rp_catL ?_
    | with_reducible refine rp_listL ?_
    | with_reducible refine rp_of ?_
    | with_reducible refine rp_r1 ?_
    | with_reducible refine rp_r2 ?_
    | with_reducible refine rp_enum ?_
    | with_reducible refine rp_zip ?_
    | with_reducible refine op_nil ?_
    | with_reducible refine op_norm (by simp only [List.set_cons_succ, List.set_cons_zero, List.map_cons, List.map_nil, List.cons_append, List.nil_append]; rfl) (op_cons ?_)
    | with_reducible refine op_cons ?_
    | with_reducible refine op_asg ?_
    | with_reducible refine op_ifT ?_
    | with_reducible refine rt_and ?_
    | with_reducible refine rt_or ?_
    | with_reducible refine rt_not ?_
    | with_reducible refine rt_of ?_
    | with_reducible refine op_ret ?_
    | with_reducible refine op_new ?_
    | with_reducible refine op_app (by with_unfolding_all rfl) (by first | exact st_get | exact st_get2) ?_
    | with_reducible refine op_aug (by with_unfolding_all rfl) (by decide) ?_
    | with_reducible refine op_for ?_
    | with_reducible refine op_par ?_
    | with_reducible refine op_tp ?_
    | with_reducible refine op_seti (by with_unfolding_all rfl) ?_
    | with_reducible refine op_expr ?_
    | with_reducible refine op_doc ?_
    | with_reducible refine op_pass ?_
    | with_reducible refine op_retN ?_
    | with_reducible refine fin0 ?_
    | with_reducible refine fin1 ?_
    | with_reducible refine fino1 ?_
    | with_reducible refine fin2 ?_
    | refine ⟨_, _, _, _, rfl, st_get, lt_sz (by first | omega | (simp only [List.length_map, List.length_append, List.length_cons, List.length_nil]; omega)), st_set, ?_⟩
    | refine ⟨_, rfl, rngOk_in (by omega) (by omega), ?_⟩
    | refine ⟨_, src_live, ?_⟩
    | refine ⟨_, bi_live rfl, ?_⟩
    | (refine ⟨_, rfl, fun h => ?_, fun h => ?_⟩ <;> try (exact absurd h (by decide)))
    | refine ⟨_, rfl, ?_⟩
    | refine ⟨_, if_pos (by first | assumption | omega), ?_⟩
    | refine ⟨_, _, rfl, le_sz rfl, ?_⟩
    | refine ⟨_, _, rfl, rfl, ?_⟩
    | refine ⟨_, _, rfl, if_pos (by first | assumption | omega), ?_⟩
    | refine ⟨_, rfl, rfl, ?_⟩
    | refine ⟨rfl, ?_⟩
    | exact rfl
    | dsimp only)
    exact ⟨hts, hnd, hk1 (by omega), by omega, hr2⟩
end M

/-! loops over typed items -/
namespace M
open PySem PySem.Spec PyProof.Rows L2
section
variable {ρ : Ev} {S : St'} {P : Po} {nx bk ct : NX} {tg : Tg} {body : Ev → St' → Out}
theorem op_fixM {α : Type} {ys : List α} (f : α → D) (I : List α → Ev → St' → Prop) (h0 : I ys ρ S)
    (step : ∀ y ys ρ S, I (y :: ys) ρ S → ∃ ρ', bindTg tg (f y) ρ = some ρ' ∧ OP (body ρ' S) (fun ρ2 S2 => I ys ρ2 S2) noN (fun ρ2 S2 => I ys ρ2 S2) P)
    (h1 : ∀ ρ S, I [] ρ S → nx ρ S) : OP (forSrc tg body (.fix (ys.map f)) ρ S) nx bk ct P := by
  refine op_fix (fun l ρ S => ∃ zs : List α, l = zs.map f ∧ I zs ρ S) ⟨ys, rfl, h0⟩ ?_ ?_
  · rintro d ds ρ S ⟨zs, e, h⟩
    cases zs with
    | nil => cases e
    | cons z zs =>
      rw [List.map_cons] at e
      obtain ⟨rfl, rfl⟩ := List.cons.inj e
      obtain ⟨ρ', h2, h3⟩ := step z zs ρ S h
      exact ⟨ρ', h2, h3.imp (fun _ _ h => ⟨zs, rfl, h⟩) (fun _ _ h => h) (fun _ _ h => h) (fun _ _ h => ⟨zs, rfl, h⟩) (fun _ _ _ _ h => h)⟩
  · rintro ρ S ⟨zs, e, h⟩
    cases zs with
    | nil => exact h1 _ _ h
    | cons z zs => cases e
theorem op_range {a b : Int} (hab : a ≤ b) (I : Int → Ev → St' → Prop) (h0 : I a ρ S)
    (step : ∀ k ρ S, a ≤ k → k < b → I k ρ S → ∃ ρ', bindTg tg (.int k) ρ = some ρ' ∧ OP (body ρ' S) (fun ρ2 S2 => I (k + 1) ρ2 S2) noN (fun ρ2 S2 => I (k + 1) ρ2 S2) P)
    (h1 : ∀ ρ S, I b ρ S → nx ρ S) : OP (forSrc tg body (.fix (rangeD a b)) ρ S) nx bk ct P := by
  refine op_fix (fun l ρ S => ∃ k, a ≤ k ∧ k ≤ b ∧ l = rangeD k b ∧ I k ρ S) ⟨a, by omega, hab, rfl, h0⟩ ?_ ?_
  · rintro d ds ρ S ⟨k, hk0, hk, hl, h⟩
    have hlt : k < b := by
      rcases Int.lt_or_le k b with h | h
      · exact h
      · rw [rangeD_nil h] at hl; cases hl
    rw [rangeD_cons hlt] at hl
    cases hl
    obtain ⟨ρ', h2, h3⟩ := step k ρ S hk0 hlt h
    exact ⟨ρ', h2, h3.imp (fun _ _ h => ⟨k + 1, by omega, by omega, rfl, h⟩) (fun _ _ h => h) (fun _ _ h => h) (fun _ _ h => ⟨k + 1, by omega, by omega, rfl, h⟩) (fun _ _ _ _ h => h)⟩
  · rintro ρ S ⟨k, hk0, hk, hl, h⟩
    have : k = b := by
      rcases Int.lt_or_le k b with h | h
      · rw [rangeD_cons h] at hl; cases hl
      · omega
    subst this
    exact h1 _ _ h
end
theorem rangeD_map (a b : Int) : rangeD a b = ((List.range (b - a).toNat).map fun k : Nat => a + (k : Int)).map D.int := by
  unfold rangeD; rw [List.map_map]; rfl
theorem rangeD0 (n : Nat) : rangeD 0 (n : Int) = (List.range n).map fun k : Nat => D.int (k : Int) := by
  unfold rangeD
  rw [show ((n : Int) - 0).toNat = n by omega]
  exact List.map_congr_left fun k _ => by rw [Int.zero_add]
theorem enumD_map {α : Type} (f : α → D) (xs : List α) : enumD (xs.map f) = xs.zipIdx.map fun p => D.tup [.int (p.2 : Nat), f p.1] := by
  unfold enumD
  rw [List.zipIdx_map, List.map_map]
  rfl
theorem slc_tup {α : Type} (f : α → D) (xs : List α) (lo hi : Option Int) : slcD (.tup (xs.map f)) lo hi = some (.tup ((cutL xs lo hi).map f)) := by
  simp only [slcD, cutD, cutL, List.length_map, List.map_take, List.map_drop]
theorem slc_lst {α : Type} (f : α → D) (xs : List α) (lo hi : Option Int) : slcD (.lst (xs.map f)) lo hi = some (.lst ((cutL xs lo hi).map f)) := by
  simp only [slcD, cutD, cutL, List.length_map, List.map_take, List.map_drop]
theorem cutL_to {α : Type} (xs : List α) {a : Int} (h0 : 0 ≤ a) : cutL xs none (some a) = xs.take a.toNat := by
  have e1 : HT.sIx xs.length 0 none = 0 := rfl
  have e2 : HT.sIx xs.length xs.length (some a) = min a.toNat xs.length := if_neg (by omega)
  rw [cutL, e1, e2, List.drop_zero, Nat.sub_zero, List.take_eq_take_iff]
  omega
theorem cutL_of {α : Type} (xs : List α) {a : Int} (h0 : 0 ≤ a) : cutL xs (some a) none = xs.drop a.toNat := by
  have e1 : HT.sIx xs.length 0 (some a) = min a.toNat xs.length := if_neg (by omega)
  have e2 : HT.sIx xs.length xs.length none = xs.length := rfl
  rw [cutL, e1, e2]
  rw [List.take_of_length_le (by rw [List.length_drop]; omega)]
  by_cases h : a.toNat ≤ xs.length
  · rw [Nat.min_eq_left h]
  · rw [Nat.min_eq_right (by omega), List.drop_length, List.drop_eq_nil_of_le (by omega)]
theorem sorted_ground {us : List Tab} {top : Int} (h : GroundOk us top) : GroundOk (us.mergeSort tabLe) top := by
  have hp := List.mergeSort_perm us tabLe
  refine ⟨fun t ht => h.each t (hp.mem_iff.mp ht), ?_, ?_, ?_, ?_⟩
  · exact (hp.map Tab.name).nodup_iff.mpr h.nd
  · rw [hp.length_eq]; exact h.len1
  · rw [hp.length_eq]; exact h.len4
  · rw [roomsOf_perm hp]; exact h.room
theorem asInts_map {α : Type} (f : α → Int) : ∀ xs : List α, asInts (xs.map fun x => D.int (f x)) = some (xs.map f)
  | [] => rfl
  | x :: xs => by rw [List.map_cons, asInts, asInts_map f xs]; rfl
end M

/-! things of any kind, and what of them is a ground: the program's reading -/
namespace M
open PySem PySem.Spec PyProof.Rows L2
/-- a thing with at most b parts at each place -/
inductive Nc (b : Nat) : D → Prop
  | non : Nc b .non
  | bl (x : Bool) : Nc b (.bl x)
  | int (i : Int) : Nc b (.int i)
  | str {x : Str} : PyData.strOk x = true → x.length ≤ b → Nc b (.str x)
  | tup {xs : List D} : (∀ x ∈ xs, Nc b x) → xs.length ≤ b → Nc b (.tup xs)
  | lst {xs : List D} : (∀ x ∈ xs, Nc b x) → xs.length ≤ b → Nc b (.lst xs)
theorem Nc.mono {b c : Nat} {d : D} (h : Nc b d) (hb : b ≤ c) : Nc c d := by
  induction h with
  | non => exact .non
  | bl x => exact .bl x
  | int x => exact .int x
  | str h1 h2 => exact .str h1 (by omega)
  | tup _ h2 ih => exact .tup ih (by omega)
  | lst _ h2 ih => exact .lst ih (by omega)
theorem Nc.strs {b : Nat} {x : Str} (h : Nc b (.str x)) : PyData.strOk x = true ∧ x.length ≤ b := by cases h; exact ⟨by assumption, by assumption⟩
theorem Nc.tups {b : Nat} {xs : List D} (h : Nc b (.tup xs)) : (∀ x ∈ xs, Nc b x) ∧ xs.length ≤ b := by cases h; exact ⟨by assumption, by assumption⟩
theorem Nc.lsts {b : Nat} {xs : List D} (h : Nc b (.lst xs)) : (∀ x ∈ xs, Nc b x) ∧ xs.length ≤ b := by cases h; exact ⟨by assumption, by assumption⟩
/-! ### the readings -/
def letB (c : Nat) : Bool := decide (97 ≤ c ∧ c ≤ 122)
def nameS (w : Str) : Bool := decide (1 ≤ w.length) && decide (w.length ≤ 8) && !decide (w ∈ barred) && w.cps.toList.all letB
def nameB : D → Bool
  | .str w => nameS w
  | _ => false
def fromB (d : D) (lo hi : Int) : Bool := match d with
  | .int i => decide (lo ≤ i) && decide (i ≤ hi)
  | _ => false
def blB : D → Bool
  | .bl _ => true
  | _ => false
def colB : D → Bool
  | .tup [a, b, c] => nameB a && (fromB b 1 9 && blB c)
  | _ => false
def fstD : D → D
  | .tup (a :: _) => a
  | _ => .non
def trdB : D → Bool
  | .tup [_, _, .bl x] => x
  | _ => false
def strD : D → Str
  | .str x => x
  | _ => ""
def intD : D → Int
  | .int i => i
  | _ => 0
def namesOf (cs : List D) : List Str := cs.map fun c => strD (fstD c)
def tabB : D → Bool
  | .tup [a, b, .tup cs] => nameB a && (decide (1 ≤ cs.length) && decide (cs.length ≤ 4)) && cs.all colB && decide (namesOf cs).Nodup && fromB b 0 cs.length && !((cs.take (intD b).toNat).any trdB)
  | _ => false
def rises : List Str → Bool
  | a :: b :: r => decide (a.cps.toList < b.cps.toList) && rises (b :: r)
  | _ => true
def groundB : D → Bool
  | .tup ts => (decide (1 ≤ ts.length) && decide (ts.length ≤ 4)) && ts.all tabB && rises (namesOf ts)
  | _ => false
theorem all_bls {α : Type} (f : α → Bool) (xs : List α) : biD .all [.lst (xs.map fun x => D.bl (f x))] = some (.bl (xs.all f)) := by
  simp only [biD, asBls_map, Option.map_some, List.all_map]
  rfl
theorem any_bls {α : Type} (f : α → Bool) (xs : List α) : biD .any [.lst (xs.map fun x => D.bl (f x))] = some (.bl (xs.any f)) := by
  simp only [biD, asBls_map, Option.map_some, List.any_map]
  rfl
theorem asStrs_map : ∀ xs : List Str, asStrs (xs.map D.str) = some xs
  | [] => rfl
  | x :: xs => by rw [List.map_cons, asStrs, asStrs_map xs]; rfl
theorem lenset_strs {xs : List Str} (h : xs.length ≤ 1000) (d : D) (hd : d = .tup (xs.map D.str) ∨ d = .lst (xs.map D.str)) : lensetD d = some (.int ((dset xs).length : Nat)) := by
  have e : sqOf d = some (xs.map D.str) := by rcases hd with rfl | rfl <;> rfl
  unfold lensetD
  rw [e, Option.bind_some, asStrs_map, Option.bind_some, if_pos]
  have : scanBound = 4096 := by decide +kernel
  omega
theorem dset_full {α : Type} [DecidableEq α] (xs : List α) : ((dset xs).length = xs.length) ↔ xs.Nodup := by
  constructor
  · intro h
    have hs : ∀ x ∈ xs, x ∈ dset xs := fun x hx => (dset_mem x xs).mpr hx
    apply Classical.byContradiction
    intro hn
    have : (dset xs).length < xs.length := by
      clear h hs
      suffices key : ∀ (n : Nat) (xs : List α), xs.length = n → ¬ xs.Nodup → (dset xs).length < n from key _ xs rfl hn
      intro n
      induction n with
      | zero => intro xs hl hn; cases xs with
        | nil => exact absurd List.nodup_nil hn
        | cons => simp at hl
      | succ n ih =>
        intro xs hl hn
        obtain ⟨ys, y, rfl⟩ : ∃ ys y, xs = ys ++ [y] := ⟨xs.dropLast, xs.getLast (by intro e; rw [e] at hl; simp at hl), (List.dropLast_concat_getLast _).symm⟩
        have hyl : ys.length = n := by simpa using hl
        rw [dset_len]
        by_cases hy : y ∈ ys
        · rw [if_pos hy]
          have := dset_le _ ys hyl
          omega
        · rw [if_neg hy]
          have : ¬ ys.Nodup := fun z => hn (by
            rw [List.nodup_append]
            exact ⟨z, by simp, fun a ha b hb => by rw [List.mem_singleton.mp hb]; exact fun e => hy (e ▸ ha)⟩)
          have := ih ys hyl this
          omega
    omega
  · intro hn
    have h1 := dset_le _ xs rfl
    have h2 := nodup_le hn (ts := dset xs) fun x hx => (dset_mem x xs).mpr hx
    omega
def c_KEPT_WORDS : D := (D.tup [(D.str "rows"), (D.str "view"), (D.str "where"), (D.str "keep"), (D.str "named"), (D.str "pairs"), (D.str "both"), (D.str "less"), (D.str "count"), (D.str "seal"), (D.str "and"), (D.str "or"), (D.str "not"), (D.str "mine"), (D.str "empty"), (D.str "loud"), (D.str "yes"), (D.str "has")])
def c_LETTERS : D := (D.str "abcdefghijklmnopqrstuvwxyz")
/-- is_whole(thing): 0 thing -/
def f_is_whole : Fn := ⟨1, 1,
  [(.ret (.and (.isi (.var 0) .int) (.not (.isi (.var 0) .bool))))]⟩
/-- is_from(thing, least, most): 0 thing, 1 least, 2 most -/
def f_is_from (i_is_whole : Nat) : Fn := ⟨3, 3,
  [(.ret (.and (.call i_is_whole [(.var 0)]) (.and (.cmp .le (.var 1) (.var 0)) (.cmp .le (.var 0) (.var 2)))))]⟩
/-- is_name(thing): 0 thing, 1 sign -/
def f_is_name : Fn := ⟨1, 2,
  [(.ife (.or (.not (.isi (.var 0) .str)) (.or (.cmp .lt (.bi .len [(.var 0)]) (.lit (D.int 1))) (.or (.cmp .gt (.bi .len [(.var 0)]) (.lit (D.int 8))) (.cmp .isin (.var 0) (.glb "KEPT_WORDS" c_KEPT_WORDS))))) [(.ret (.lit (D.bl false)))] []),
  (.ret (.bi .all [(.lc (.v 1) (.of (.var 0)) [] (.cmp .isin (.var 1) (.glb "LETTERS" c_LETTERS)))]))]⟩
/-- are_names(thing): 0 thing, 1 name -/
def f_are_names (i_is_name : Nat) : Fn := ⟨1, 2,
  [(.ife (.or (.not (.isi (.var 0) .tuple)) (.cmp .eq (.bi .len [(.var 0)]) (.lit (D.int 0)))) [(.ret (.lit (D.bl false)))] []),
  (.ret (.and (.bi .all [(.lc (.v 1) (.of (.var 0)) [] (.call i_is_name [(.var 1)]))]) (.cmp .eq (.fz .lenset [(.var 0)]) (.bi .len [(.var 0)]))))]⟩
/-- is_column(thing): 0 thing -/
def f_is_column (i_is_from i_is_name : Nat) : Fn := ⟨1, 1,
  [(.ife (.or (.not (.isi (.var 0) .tuple)) (.cmp .ne (.bi .len [(.var 0)]) (.lit (D.int 3)))) [(.ret (.lit (D.bl false)))] []),
  (.ret (.and (.call i_is_name [(.idx (.var 0) (.lit (D.int 0)))]) (.and (.call i_is_from [(.idx (.var 0) (.lit (D.int 1))), (.lit (D.int 1)), (.lit (D.int 9))]) (.isi (.idx (.var 0) (.lit (D.int 2))) .bool))))]⟩
/-- is_table(thing): 0 thing, 1 columns, 2 column -/
def f_is_table (i_is_name i_are_names i_names_of i_is_column i_is_from : Nat) : Fn := ⟨1, 3,
  [(.ife (.or (.not (.isi (.var 0) .tuple)) (.or (.cmp .ne (.bi .len [(.var 0)]) (.lit (D.int 3))) (.not (.call i_is_name [(.idx (.var 0) (.lit (D.int 0)))])))) [(.ret (.lit (D.bl false)))] []),
  (.asg (.v 1) (.idx (.var 0) (.lit (D.int 2)))),
  (.ife (.or (.not (.isi (.var 1) .tuple)) (.not (.cmp2 .le .le (.lit (D.int 1)) (.bi .len [(.var 1)]) (.lit (D.int 4))))) [(.ret (.lit (D.bl false)))] []),
  (.ife (.or (.not (.bi .all [(.lc (.v 2) (.of (.var 1)) [] (.call i_is_column [(.var 2)]))])) (.not (.call i_are_names [(.call i_names_of [(.var 0)])]))) [(.ret (.lit (D.bl false)))] []),
  (.ret (.and (.call i_is_from [(.idx (.var 0) (.lit (D.int 1))), (.lit (D.int 0)), (.bi .len [(.var 1)])]) (.not (.bi .any [(.lc (.v 2) (.of (.slc (.var 1) [] [(.idx (.var 0) (.lit (D.int 1)))])) [] (.idx (.var 2) (.lit (D.int 2))))]))))]⟩
/-- is_ground(thing): 0 thing, 1 table, 2 one, 3 other -/
def f_is_ground (i_is_table : Nat) : Fn := ⟨1, 4,
  [(.ife (.or (.not (.isi (.var 0) .tuple)) (.not (.cmp2 .le .le (.lit (D.int 1)) (.bi .len [(.var 0)]) (.lit (D.int 4))))) [(.ret (.lit (D.bl false)))] []),
  (.ife (.not (.bi .all [(.lc (.v 1) (.of (.var 0)) [] (.call i_is_table [(.var 1)]))])) [(.ret (.lit (D.bl false)))] []),
  (.ret (.bi .all [(.lc (.tp [2, 3]) (.zip (.var 0) (.slc (.var 0) [(.lit (D.int 1))] [])) [] (.cmp .lt (.idx (.var 2) (.lit (D.int 0))) (.idx (.var 3) (.lit (D.int 0)))))]))]⟩
/-- names_of(table): 0 table, 1 column -/
def f_names_of : Fn := ⟨1, 2,
  [(.ret (.bi .tuple [(.lc (.v 1) (.of (.idx (.var 0) (.lit (D.int 2)))) [] (.idx (.var 1) (.lit (D.int 0))))]))]⟩
theorem t_f (h : true = false) : False := by cases h
theorem f_t (h : false = true) : False := by cases h
abbrev Is (S : St') (d : D) : SV → St' → Prop := fun v S' => S' = S ∧ v = .t d
theorem rp_lcI {F : FS} {tg : Tg} {e : ME} {ρ : Ev} {S : St'} {P : List D → St' → Prop} {E : EX} {ys : List D} (g : D → D) (hl : ys.length ≤ 16777216)
    (h : ∀ y ∈ ys, ∀ acc, ∃ ρ', bindTg tg y ρ = some ρ' ∧ RP (evalE F e ρ' (S ++ [.lst acc])) (fun x S2 => x = .t (g y) ∧ S2 = S ++ [.lst acc]) noE)
    (hp : P (ys.map g) S) : RP (lcSrc tg (tests (evalCs F [])) (evalE F e) (.fix ys) ρ S) P E := by
  have := rp_lcM (F := F) (tg := tg) (e := e) (ρ := ρ) (S := S) (P := P) (E := E) (ys := ys) (fun y => y) g hl h hp
  rwa [List.map_id'] at this
theorem strIn_ltr (c : Nat) : strIn ⟨#[c]⟩ LTR = letB c := by
  unfold strIn letB
  simp only
  apply decide_eq_decide.mpr
  rw [ltr_list, List.mem_map]
  constructor
  · rintro ⟨k, hk, rfl⟩
    have := List.mem_range.mp hk
    omega
  · intro h
    exact ⟨c - 97, List.mem_range.mpr (by omega), by omega⟩
theorem is_whole_ok {T : List Fn} {i : Nat} (hT : T[i]? = some f_is_whole) (n : Nat) (d : D) (S : St') : RP (FT T (n + 1) i [.t d] S) (Is S (.bl (match d with | .int _ => true | _ => false))) noE := by
  refine rp_fn hT rfl rfl ?_
  simp only [f_is_whole, pad]
  cases d <;> repeat' (first
    | with_reducible refine rp_var (by with_unfolding_all rfl) ?_
    | with_reducible refine rp_lit ?_
    | with_reducible refine rp_glb ?_
    | with_reducible refine rp_bin ?_
    | with_reducible refine rp_cmp ?_
    | with_reducible refine rp_cons ?_
    | with_reducible refine rp_nil ?_
    | with_reducible refine rp_idx ?_
    | with_reducible refine rp_call ?_
    | with_reducible refine rp_bi ?_
    | with_reducible refine rp_fz ?_
    | with_reducible refine rp_and ?_
    | with_reducible refine rp_or ?_
    | with_reducible refine rp_not ?_
    | with_reducible refine rp_ifT ?_
    | with_reducible refine rp_slc ?_
    | with_reducible refine rp_p0 ?_
    | with_reducible refine rp_p1 ?_
    | with_reducible refine rp_tup ?_
    | with_reducible refine rp_lst ?_
    | with_reducible refine rp_isi ?_
    | with_reducible refine rp_isit ?_
    | with_reducible refine rp_mth ?_
    | with_reducible refine rp_cmp2 ?_
    | with_reducible refine rp_neg ?_
    | with_reducible refine rp_t0 ?_
    | with_reducible refine rp_t1 ?_
    | with_reducible refine rp_lc ?_
    | with_reducible refine rp_lcL ?_
    | with_reducible refine rp_lstL ?_
    | with_reducible refine rp_catL ?_
    | with_reducible refine rp_listL ?_
    | with_reducible refine rp_of ?_
    | with_reducible refine rp_r1 ?_
    | with_reducible refine rp_r2 ?_
    | with_reducible refine rp_enum ?_
    | with_reducible refine rp_zip ?_
    | with_reducible refine op_nil ?_
    | with_reducible refine op_norm (by simp only [List.set_cons_succ, List.set_cons_zero, List.map_cons, List.map_nil, List.cons_append, List.nil_append]; rfl) (op_cons ?_)
    | with_reducible refine op_cons ?_
    | with_reducible refine op_asg ?_
    | with_reducible refine op_ifT ?_
    | with_reducible refine rt_and ?_
    | with_reducible refine rt_or ?_
    | with_reducible refine rt_not ?_
    | with_reducible refine rt_of ?_
    | with_reducible refine op_ret ?_
    | with_reducible refine op_new ?_
    | with_reducible refine op_app (by with_unfolding_all rfl) (by first | exact st_get | exact st_get2) ?_
    | with_reducible refine op_aug (by with_unfolding_all rfl) (by decide) ?_
    | with_reducible refine op_for ?_
    | with_reducible refine op_par ?_
    | with_reducible refine op_tp ?_
    | with_reducible refine op_seti (by with_unfolding_all rfl) ?_
    | with_reducible refine op_expr ?_
    | with_reducible refine op_doc ?_
    | with_reducible refine op_pass ?_
    | with_reducible refine op_retN ?_
    | with_reducible refine fin0 ?_
    | with_reducible refine fin1 ?_
    | with_reducible refine fino1 ?_
    | with_reducible refine fin2 ?_
    | refine ⟨_, _, _, _, rfl, st_get, lt_sz (by first | omega | (simp only [List.length_map, List.length_append, List.length_cons, List.length_nil]; omega)), st_set, ?_⟩
    | refine ⟨_, rfl, rngOk_in (by omega) (by omega), ?_⟩
    | refine ⟨_, src_live, ?_⟩
    | refine ⟨_, bi_live rfl, ?_⟩
    | (refine ⟨_, rfl, fun h => ?_, fun h => ?_⟩ <;> try (first | exact absurd h (by decide) | exact (f_t h).elim | exact (t_f h).elim))
    | refine ⟨_, rfl, ?_⟩
    | refine ⟨_, if_pos (by first | assumption | omega), ?_⟩
    | refine ⟨_, _, rfl, le_sz rfl, ?_⟩
    | refine ⟨_, _, rfl, rfl, ?_⟩
    | refine ⟨_, _, rfl, if_pos (by first | assumption | omega), ?_⟩
    | refine ⟨_, rfl, rfl, ?_⟩
    | refine ⟨rfl, ?_⟩
    | exact rfl
    | dsimp only)
theorem is_from_ok {T : List Fn} {i iW : Nat} (hT : T[i]? = some (f_is_from iW)) (hW : T[iW]? = some f_is_whole) (n : Nat) (d : D) (lo hi : Int) (S : St') : RP (FT T (n + 2) i [.t d, .t (.int lo), .t (.int hi)] S) (Is S (.bl (fromB d lo hi))) noE := by
  refine rp_fn hT rfl rfl ?_
  simp only [f_is_from, pad]
  repeat' (first
    | with_reducible refine rp_var (by with_unfolding_all rfl) ?_
    | with_reducible refine rp_lit ?_
    | with_reducible refine rp_glb ?_
    | with_reducible refine rp_bin ?_
    | with_reducible refine rp_cmp ?_
    | with_reducible refine rp_cons ?_
    | with_reducible refine rp_nil ?_
    | with_reducible refine rp_idx ?_
    | with_reducible refine rp_call ?_
    | with_reducible refine rp_bi ?_
    | with_reducible refine rp_fz ?_
    | with_reducible refine rp_and ?_
    | with_reducible refine rp_or ?_
    | with_reducible refine rp_not ?_
    | with_reducible refine rp_ifT ?_
    | with_reducible refine rp_slc ?_
    | with_reducible refine rp_p0 ?_
    | with_reducible refine rp_p1 ?_
    | with_reducible refine rp_tup ?_
    | with_reducible refine rp_lst ?_
    | with_reducible refine rp_isi ?_
    | with_reducible refine rp_isit ?_
    | with_reducible refine rp_mth ?_
    | with_reducible refine rp_cmp2 ?_
    | with_reducible refine rp_neg ?_
    | with_reducible refine rp_t0 ?_
    | with_reducible refine rp_t1 ?_
    | with_reducible refine rp_lc ?_
    | with_reducible refine rp_lcL ?_
    | with_reducible refine rp_lstL ?_
    | with_reducible refine rp_catL ?_
    | with_reducible refine rp_listL ?_
    | with_reducible refine rp_of ?_
    | with_reducible refine rp_r1 ?_
    | with_reducible refine rp_r2 ?_
    | with_reducible refine rp_enum ?_
    | with_reducible refine rp_zip ?_
    | with_reducible refine op_nil ?_
    | with_reducible refine op_norm (by simp only [List.set_cons_succ, List.set_cons_zero, List.map_cons, List.map_nil, List.cons_append, List.nil_append]; rfl) (op_cons ?_)
    | with_reducible refine op_cons ?_
    | with_reducible refine op_asg ?_
    | with_reducible refine op_ifT ?_
    | with_reducible refine rt_and ?_
    | with_reducible refine rt_or ?_
    | with_reducible refine rt_not ?_
    | with_reducible refine rt_of ?_
    | with_reducible refine op_ret ?_
    | with_reducible refine op_new ?_
    | with_reducible refine op_app (by with_unfolding_all rfl) (by first | exact st_get | exact st_get2) ?_
    | with_reducible refine op_aug (by with_unfolding_all rfl) (by decide) ?_
    | with_reducible refine op_for ?_
    | with_reducible refine op_par ?_
    | with_reducible refine op_tp ?_
    | with_reducible refine op_seti (by with_unfolding_all rfl) ?_
    | with_reducible refine op_expr ?_
    | with_reducible refine op_doc ?_
    | with_reducible refine op_pass ?_
    | with_reducible refine op_retN ?_
    | with_reducible refine fin0 ?_
    | with_reducible refine fin1 ?_
    | with_reducible refine fino1 ?_
    | with_reducible refine fin2 ?_
    | refine ⟨_, _, _, _, rfl, st_get, lt_sz (by first | omega | (simp only [List.length_map, List.length_append, List.length_cons, List.length_nil]; omega)), st_set, ?_⟩
    | refine ⟨_, rfl, rngOk_in (by omega) (by omega), ?_⟩
    | refine ⟨_, src_live, ?_⟩
    | refine ⟨_, bi_live rfl, ?_⟩
    | (refine ⟨_, rfl, fun h => ?_, fun h => ?_⟩ <;> try (first | exact absurd h (by decide) | exact (f_t h).elim | exact (t_f h).elim))
    | refine ⟨_, rfl, ?_⟩
    | refine ⟨_, if_pos (by first | assumption | omega), ?_⟩
    | refine ⟨_, _, rfl, le_sz rfl, ?_⟩
    | refine ⟨_, _, rfl, rfl, ?_⟩
    | refine ⟨_, _, rfl, if_pos (by first | assumption | omega), ?_⟩
    | refine ⟨_, rfl, rfl, ?_⟩
    | refine ⟨rfl, ?_⟩
    | exact rfl
    | dsimp only)
  refine RP.of_no (is_whole_ok hW n d S) fun v S1 ⟨e1, e2⟩ => ?_
  subst e1; subst e2
  cases d <;> repeat' (first
    | with_reducible refine rp_var (by with_unfolding_all rfl) ?_
    | with_reducible refine rp_lit ?_
    | with_reducible refine rp_glb ?_
    | with_reducible refine rp_bin ?_
    | with_reducible refine rp_cmp ?_
    | with_reducible refine rp_cons ?_
    | with_reducible refine rp_nil ?_
    | with_reducible refine rp_idx ?_
    | with_reducible refine rp_call ?_
    | with_reducible refine rp_bi ?_
    | with_reducible refine rp_fz ?_
    | with_reducible refine rp_and ?_
    | with_reducible refine rp_or ?_
    | with_reducible refine rp_not ?_
    | with_reducible refine rp_ifT ?_
    | with_reducible refine rp_slc ?_
    | with_reducible refine rp_p0 ?_
    | with_reducible refine rp_p1 ?_
    | with_reducible refine rp_tup ?_
    | with_reducible refine rp_lst ?_
    | with_reducible refine rp_isi ?_
    | with_reducible refine rp_isit ?_
    | with_reducible refine rp_mth ?_
    | with_reducible refine rp_cmp2 ?_
    | with_reducible refine rp_neg ?_
    | with_reducible refine rp_t0 ?_
    | with_reducible refine rp_t1 ?_
    | with_reducible refine rp_lc ?_
    | with_reducible refine rp_lcL ?_
    | with_reducible refine rp_lstL ?_
    | with_reducible refine rp_catL ?_
    | with_reducible refine rp_listL ?_
    | with_reducible refine rp_of ?_
    | with_reducible refine rp_r1 ?_
    | with_reducible refine rp_r2 ?_
    | with_reducible refine rp_enum ?_
    | with_reducible refine rp_zip ?_
    | with_reducible refine op_nil ?_
    | with_reducible refine op_norm (by simp only [List.set_cons_succ, List.set_cons_zero, List.map_cons, List.map_nil, List.cons_append, List.nil_append]; rfl) (op_cons ?_)
    | with_reducible refine op_cons ?_
    | with_reducible refine op_asg ?_
    | with_reducible refine op_ifT ?_
    | with_reducible refine rt_and ?_
    | with_reducible refine rt_or ?_
    | with_reducible refine rt_not ?_
    | with_reducible refine rt_of ?_
    | with_reducible refine op_ret ?_
    | with_reducible refine op_new ?_
    | with_reducible refine op_app (by with_unfolding_all rfl) (by first | exact st_get | exact st_get2) ?_
    | with_reducible refine op_aug (by with_unfolding_all rfl) (by decide) ?_
    | with_reducible refine op_for ?_
    | with_reducible refine op_par ?_
    | with_reducible refine op_tp ?_
    | with_reducible refine op_seti (by with_unfolding_all rfl) ?_
    | with_reducible refine op_expr ?_
    | with_reducible refine op_doc ?_
    | with_reducible refine op_pass ?_
    | with_reducible refine op_retN ?_
    | with_reducible refine fin0 ?_
    | with_reducible refine fin1 ?_
    | with_reducible refine fino1 ?_
    | with_reducible refine fin2 ?_
    | refine ⟨_, _, _, _, rfl, st_get, lt_sz (by first | omega | (simp only [List.length_map, List.length_append, List.length_cons, List.length_nil]; omega)), st_set, ?_⟩
    | refine ⟨_, rfl, rngOk_in (by omega) (by omega), ?_⟩
    | refine ⟨_, src_live, ?_⟩
    | refine ⟨_, bi_live rfl, ?_⟩
    | (refine ⟨_, rfl, fun h => ?_, fun h => ?_⟩ <;> try (first | exact absurd h (by decide) | exact (f_t h).elim | exact (t_f h).elim))
    | refine ⟨_, rfl, ?_⟩
    | refine ⟨_, if_pos (by first | assumption | omega), ?_⟩
    | refine ⟨_, _, rfl, le_sz rfl, ?_⟩
    | refine ⟨_, _, rfl, rfl, ?_⟩
    | refine ⟨_, _, rfl, if_pos (by first | assumption | omega), ?_⟩
    | refine ⟨_, rfl, rfl, ?_⟩
    | refine ⟨rfl, ?_⟩
    | exact rfl
    | dsimp only)
  · simp only [fromB, h, Bool.true_and]
  · simp only [fromB, h, Bool.false_and]
theorem kept_in {x : Str} (h : PyData.strOk x = true) : cmpD .isin (.str x) c_KEPT_WORDS = some (decide (x ∈ barred)) := by
  have e : c_KEPT_WORDS = .tup (barred.map .str) := rfl
  rw [e]
  have h1 : okD (.str x) = true := (Ok.str (k := 0) h).okD (by omega)
  have h2 : okD (.tup (barred.map .str)) = true := (Ok.tup (k := 0) fun x hx => by
    obtain ⟨t, ht', rfl⟩ := List.mem_map.mp hx
    exact Ok.str (bar_ok t ht')).okD (by omega)
  simp only [cmpD, inD, h1, h2, Bool.and_self, if_true, any_strs]
theorem is_name_ok {T : List Fn} {i b : Nat} (hT : T[i]? = some f_is_name) (n : Nat) {d : D} (hd : Nc b d) (hb : b ≤ 1000) (S : St') : RP (FT T (n + 1) i [.t d] S) (Is S (.bl (nameB d))) noE := by
  refine rp_fn hT rfl rfl ?_
  simp only [f_is_name, pad]
  cases hd with
  | @str x ho hl =>
    have e1 : biD .len [.str x] = some (.int x.length) := if_pos (le_sz' (by omega))
    have e2 := kept_in ho
    repeat' (first
    | with_reducible refine rp_var (by with_unfolding_all rfl) ?_
    | refine ⟨_, e1, ?_⟩
    | refine ⟨_, e2, ?_⟩
    | with_reducible refine rp_lit ?_
    | with_reducible refine rp_glb ?_
    | with_reducible refine rp_bin ?_
    | with_reducible refine rp_cmp ?_
    | with_reducible refine rp_cons ?_
    | with_reducible refine rp_nil ?_
    | with_reducible refine rp_idx ?_
    | with_reducible refine rp_call ?_
    | with_reducible refine rp_bi ?_
    | with_reducible refine rp_fz ?_
    | with_reducible refine rp_and ?_
    | with_reducible refine rp_or ?_
    | with_reducible refine rp_not ?_
    | with_reducible refine rp_ifT ?_
    | with_reducible refine rp_slc ?_
    | with_reducible refine rp_p0 ?_
    | with_reducible refine rp_p1 ?_
    | with_reducible refine rp_tup ?_
    | with_reducible refine rp_lst ?_
    | with_reducible refine rp_isi ?_
    | with_reducible refine rp_isit ?_
    | with_reducible refine rp_mth ?_
    | with_reducible refine rp_cmp2 ?_
    | with_reducible refine rp_neg ?_
    | with_reducible refine rp_t0 ?_
    | with_reducible refine rp_t1 ?_
    | with_reducible refine rp_lc ?_
    | with_reducible refine rp_lcL ?_
    | with_reducible refine rp_lstL ?_
    | with_reducible refine rp_catL ?_
    | with_reducible refine rp_listL ?_
    | with_reducible refine rp_of ?_
    | with_reducible refine rp_r1 ?_
    | with_reducible refine rp_r2 ?_
    | with_reducible refine rp_enum ?_
    | with_reducible refine rp_zip ?_
    | with_reducible refine op_nil ?_
    | with_reducible refine op_norm (by simp only [List.set_cons_succ, List.set_cons_zero, List.map_cons, List.map_nil, List.cons_append, List.nil_append]; rfl) (op_cons ?_)
    | with_reducible refine op_cons ?_
    | with_reducible refine op_asg ?_
    | with_reducible refine op_ifT ?_
    | with_reducible refine rt_and ?_
    | with_reducible refine rt_or ?_
    | with_reducible refine rt_not ?_
    | with_reducible refine rt_of ?_
    | with_reducible refine op_ret ?_
    | with_reducible refine op_new ?_
    | with_reducible refine op_app (by with_unfolding_all rfl) (by first | exact st_get | exact st_get2) ?_
    | with_reducible refine op_aug (by with_unfolding_all rfl) (by decide) ?_
    | with_reducible refine op_for ?_
    | with_reducible refine op_par ?_
    | with_reducible refine op_tp ?_
    | with_reducible refine op_seti (by with_unfolding_all rfl) ?_
    | with_reducible refine op_expr ?_
    | with_reducible refine op_doc ?_
    | with_reducible refine op_pass ?_
    | with_reducible refine op_retN ?_
    | with_reducible refine fin0 ?_
    | with_reducible refine fin1 ?_
    | with_reducible refine fino1 ?_
    | with_reducible refine fin2 ?_
    | refine ⟨_, _, _, _, rfl, st_get, lt_sz (by first | omega | (simp only [List.length_map, List.length_append, List.length_cons, List.length_nil]; omega)), st_set, ?_⟩
    | refine ⟨_, rfl, rngOk_in (by omega) (by omega), ?_⟩
    | refine ⟨_, src_live, ?_⟩
    | refine ⟨_, bi_live rfl, ?_⟩
    | (refine ⟨_, rfl, fun h => ?_, fun h => ?_⟩ <;> try (first | exact absurd h (by decide) | exact (f_t h).elim | exact (t_f h).elim))
    | refine ⟨_, rfl, ?_⟩
    | refine ⟨_, if_pos (by first | assumption | omega), ?_⟩
    | refine ⟨_, _, rfl, le_sz rfl, ?_⟩
    | refine ⟨_, _, rfl, rfl, ?_⟩
    | refine ⟨_, _, rfl, if_pos (by first | assumption | omega), ?_⟩
    | refine ⟨_, rfl, rfl, ?_⟩
    | refine ⟨rfl, ?_⟩
    | exact rfl
    | dsimp only)
    · have := of_decide_eq_true h
      simp [nameB, nameS]
      omega
    · have := of_decide_eq_true h
      simp [nameB, nameS]
      omega
    · simp only [nameB, nameS, h]
      simp
    · rename_i h1 h2
      have h1 := of_decide_eq_false h1
      have h2 := of_decide_eq_false h2
      refine rp_lcM (fun c => D.str ⟨#[c]⟩) (fun c => .bl (letB c)) (by rw [← len_list]; omega) (fun c hc acc => ?_) ?_
      · have e3 : cmpD .isin (.str ⟨#[c]⟩) c_LETTERS = some (letB c) := by
          simp only [cmpD, c_LETTERS, inD, strIn_ltr]
        refine ⟨_, rfl, ?_⟩
        repeat' (first
    | with_reducible refine rp_var (by with_unfolding_all rfl) ?_
    | refine ⟨_, e3, ?_⟩
    | with_reducible refine rp_lit ?_
    | with_reducible refine rp_glb ?_
    | with_reducible refine rp_bin ?_
    | with_reducible refine rp_cmp ?_
    | with_reducible refine rp_cons ?_
    | with_reducible refine rp_nil ?_
    | with_reducible refine rp_idx ?_
    | with_reducible refine rp_call ?_
    | with_reducible refine rp_bi ?_
    | with_reducible refine rp_fz ?_
    | with_reducible refine rp_and ?_
    | with_reducible refine rp_or ?_
    | with_reducible refine rp_not ?_
    | with_reducible refine rp_ifT ?_
    | with_reducible refine rp_slc ?_
    | with_reducible refine rp_p0 ?_
    | with_reducible refine rp_p1 ?_
    | with_reducible refine rp_tup ?_
    | with_reducible refine rp_lst ?_
    | with_reducible refine rp_isi ?_
    | with_reducible refine rp_isit ?_
    | with_reducible refine rp_mth ?_
    | with_reducible refine rp_cmp2 ?_
    | with_reducible refine rp_neg ?_
    | with_reducible refine rp_t0 ?_
    | with_reducible refine rp_t1 ?_
    | with_reducible refine rp_lc ?_
    | with_reducible refine rp_lcL ?_
    | with_reducible refine rp_lstL ?_
    | with_reducible refine rp_catL ?_
    | with_reducible refine rp_listL ?_
    | with_reducible refine rp_of ?_
    | with_reducible refine rp_r1 ?_
    | with_reducible refine rp_r2 ?_
    | with_reducible refine rp_enum ?_
    | with_reducible refine rp_zip ?_
    | with_reducible refine op_nil ?_
    | with_reducible refine op_norm (by simp only [List.set_cons_succ, List.set_cons_zero, List.map_cons, List.map_nil, List.cons_append, List.nil_append]; rfl) (op_cons ?_)
    | with_reducible refine op_cons ?_
    | with_reducible refine op_asg ?_
    | with_reducible refine op_ifT ?_
    | with_reducible refine rt_and ?_
    | with_reducible refine rt_or ?_
    | with_reducible refine rt_not ?_
    | with_reducible refine rt_of ?_
    | with_reducible refine op_ret ?_
    | with_reducible refine op_new ?_
    | with_reducible refine op_app (by with_unfolding_all rfl) (by first | exact st_get | exact st_get2) ?_
    | with_reducible refine op_aug (by with_unfolding_all rfl) (by decide) ?_
    | with_reducible refine op_for ?_
    | with_reducible refine op_par ?_
    | with_reducible refine op_tp ?_
    | with_reducible refine op_seti (by with_unfolding_all rfl) ?_
    | with_reducible refine op_expr ?_
    | with_reducible refine op_doc ?_
    | with_reducible refine op_pass ?_
    | with_reducible refine op_retN ?_
    | with_reducible refine fin0 ?_
    | with_reducible refine fin1 ?_
    | with_reducible refine fino1 ?_
    | with_reducible refine fin2 ?_
    | refine ⟨_, _, _, _, rfl, st_get, lt_sz (by first | omega | (simp only [List.length_map, List.length_append, List.length_cons, List.length_nil]; omega)), st_set, ?_⟩
    | refine ⟨_, rfl, rngOk_in (by omega) (by omega), ?_⟩
    | refine ⟨_, src_live, ?_⟩
    | refine ⟨_, bi_live rfl, ?_⟩
    | (refine ⟨_, rfl, fun h => ?_, fun h => ?_⟩ <;> try (first | exact absurd h (by decide) | exact (f_t h).elim | exact (t_f h).elim))
    | refine ⟨_, rfl, ?_⟩
    | refine ⟨_, if_pos (by first | assumption | omega), ?_⟩
    | refine ⟨_, _, rfl, le_sz rfl, ?_⟩
    | refine ⟨_, _, rfl, rfl, ?_⟩
    | refine ⟨_, _, rfl, if_pos (by first | assumption | omega), ?_⟩
    | refine ⟨_, rfl, rfl, ?_⟩
    | refine ⟨rfl, ?_⟩
    | exact rfl
    | dsimp only)
      · repeat' (first
    | with_reducible refine rp_var (by with_unfolding_all rfl) ?_
    | refine ⟨_, all_bls letB x.cps.toList, ?_⟩
    | with_reducible refine rp_lit ?_
    | with_reducible refine rp_glb ?_
    | with_reducible refine rp_bin ?_
    | with_reducible refine rp_cmp ?_
    | with_reducible refine rp_cons ?_
    | with_reducible refine rp_nil ?_
    | with_reducible refine rp_idx ?_
    | with_reducible refine rp_call ?_
    | with_reducible refine rp_bi ?_
    | with_reducible refine rp_fz ?_
    | with_reducible refine rp_and ?_
    | with_reducible refine rp_or ?_
    | with_reducible refine rp_not ?_
    | with_reducible refine rp_ifT ?_
    | with_reducible refine rp_slc ?_
    | with_reducible refine rp_p0 ?_
    | with_reducible refine rp_p1 ?_
    | with_reducible refine rp_tup ?_
    | with_reducible refine rp_lst ?_
    | with_reducible refine rp_isi ?_
    | with_reducible refine rp_isit ?_
    | with_reducible refine rp_mth ?_
    | with_reducible refine rp_cmp2 ?_
    | with_reducible refine rp_neg ?_
    | with_reducible refine rp_t0 ?_
    | with_reducible refine rp_t1 ?_
    | with_reducible refine rp_lc ?_
    | with_reducible refine rp_lcL ?_
    | with_reducible refine rp_lstL ?_
    | with_reducible refine rp_catL ?_
    | with_reducible refine rp_listL ?_
    | with_reducible refine rp_of ?_
    | with_reducible refine rp_r1 ?_
    | with_reducible refine rp_r2 ?_
    | with_reducible refine rp_enum ?_
    | with_reducible refine rp_zip ?_
    | with_reducible refine op_nil ?_
    | with_reducible refine op_norm (by simp only [List.set_cons_succ, List.set_cons_zero, List.map_cons, List.map_nil, List.cons_append, List.nil_append]; rfl) (op_cons ?_)
    | with_reducible refine op_cons ?_
    | with_reducible refine op_asg ?_
    | with_reducible refine op_ifT ?_
    | with_reducible refine rt_and ?_
    | with_reducible refine rt_or ?_
    | with_reducible refine rt_not ?_
    | with_reducible refine rt_of ?_
    | with_reducible refine op_ret ?_
    | with_reducible refine op_new ?_
    | with_reducible refine op_app (by with_unfolding_all rfl) (by first | exact st_get | exact st_get2) ?_
    | with_reducible refine op_aug (by with_unfolding_all rfl) (by decide) ?_
    | with_reducible refine op_for ?_
    | with_reducible refine op_par ?_
    | with_reducible refine op_tp ?_
    | with_reducible refine op_seti (by with_unfolding_all rfl) ?_
    | with_reducible refine op_expr ?_
    | with_reducible refine op_doc ?_
    | with_reducible refine op_pass ?_
    | with_reducible refine op_retN ?_
    | with_reducible refine fin0 ?_
    | with_reducible refine fin1 ?_
    | with_reducible refine fino1 ?_
    | with_reducible refine fin2 ?_
    | refine ⟨_, _, _, _, rfl, st_get, lt_sz (by first | omega | (simp only [List.length_map, List.length_append, List.length_cons, List.length_nil]; omega)), st_set, ?_⟩
    | refine ⟨_, rfl, rngOk_in (by omega) (by omega), ?_⟩
    | refine ⟨_, src_live, ?_⟩
    | refine ⟨_, bi_live rfl, ?_⟩
    | (refine ⟨_, rfl, fun h => ?_, fun h => ?_⟩ <;> try (first | exact absurd h (by decide) | exact (f_t h).elim | exact (t_f h).elim))
    | refine ⟨_, rfl, ?_⟩
    | refine ⟨_, if_pos (by first | assumption | omega), ?_⟩
    | refine ⟨_, _, rfl, le_sz rfl, ?_⟩
    | refine ⟨_, _, rfl, rfl, ?_⟩
    | refine ⟨_, _, rfl, if_pos (by first | assumption | omega), ?_⟩
    | refine ⟨_, rfl, rfl, ?_⟩
    | refine ⟨rfl, ?_⟩
    | exact rfl
    | dsimp only)
        have h3 : 1 ≤ x.length := by omega
        have h4 : x.length ≤ 8 := by omega
        simp only [nameB, nameS, h, h3, h4, decide_true, Bool.true_and, Bool.not_false]
  | _ => repeat' (first
    | with_reducible refine rp_var (by with_unfolding_all rfl) ?_
    | with_reducible refine rp_lit ?_
    | with_reducible refine rp_glb ?_
    | with_reducible refine rp_bin ?_
    | with_reducible refine rp_cmp ?_
    | with_reducible refine rp_cons ?_
    | with_reducible refine rp_nil ?_
    | with_reducible refine rp_idx ?_
    | with_reducible refine rp_call ?_
    | with_reducible refine rp_bi ?_
    | with_reducible refine rp_fz ?_
    | with_reducible refine rp_and ?_
    | with_reducible refine rp_or ?_
    | with_reducible refine rp_not ?_
    | with_reducible refine rp_ifT ?_
    | with_reducible refine rp_slc ?_
    | with_reducible refine rp_p0 ?_
    | with_reducible refine rp_p1 ?_
    | with_reducible refine rp_tup ?_
    | with_reducible refine rp_lst ?_
    | with_reducible refine rp_isi ?_
    | with_reducible refine rp_isit ?_
    | with_reducible refine rp_mth ?_
    | with_reducible refine rp_cmp2 ?_
    | with_reducible refine rp_neg ?_
    | with_reducible refine rp_t0 ?_
    | with_reducible refine rp_t1 ?_
    | with_reducible refine rp_lc ?_
    | with_reducible refine rp_lcL ?_
    | with_reducible refine rp_lstL ?_
    | with_reducible refine rp_catL ?_
    | with_reducible refine rp_listL ?_
    | with_reducible refine rp_of ?_
    | with_reducible refine rp_r1 ?_
    | with_reducible refine rp_r2 ?_
    | with_reducible refine rp_enum ?_
    | with_reducible refine rp_zip ?_
    | with_reducible refine op_nil ?_
    | with_reducible refine op_norm (by simp only [List.set_cons_succ, List.set_cons_zero, List.map_cons, List.map_nil, List.cons_append, List.nil_append]; rfl) (op_cons ?_)
    | with_reducible refine op_cons ?_
    | with_reducible refine op_asg ?_
    | with_reducible refine op_ifT ?_
    | with_reducible refine rt_and ?_
    | with_reducible refine rt_or ?_
    | with_reducible refine rt_not ?_
    | with_reducible refine rt_of ?_
    | with_reducible refine op_ret ?_
    | with_reducible refine op_new ?_
    | with_reducible refine op_app (by with_unfolding_all rfl) (by first | exact st_get | exact st_get2) ?_
    | with_reducible refine op_aug (by with_unfolding_all rfl) (by decide) ?_
    | with_reducible refine op_for ?_
    | with_reducible refine op_par ?_
    | with_reducible refine op_tp ?_
    | with_reducible refine op_seti (by with_unfolding_all rfl) ?_
    | with_reducible refine op_expr ?_
    | with_reducible refine op_doc ?_
    | with_reducible refine op_pass ?_
    | with_reducible refine op_retN ?_
    | with_reducible refine fin0 ?_
    | with_reducible refine fin1 ?_
    | with_reducible refine fino1 ?_
    | with_reducible refine fin2 ?_
    | refine ⟨_, _, _, _, rfl, st_get, lt_sz (by first | omega | (simp only [List.length_map, List.length_append, List.length_cons, List.length_nil]; omega)), st_set, ?_⟩
    | refine ⟨_, rfl, rngOk_in (by omega) (by omega), ?_⟩
    | refine ⟨_, src_live, ?_⟩
    | refine ⟨_, bi_live rfl, ?_⟩
    | (refine ⟨_, rfl, fun h => ?_, fun h => ?_⟩ <;> try (first | exact absurd h (by decide) | exact (f_t h).elim | exact (t_f h).elim))
    | refine ⟨_, rfl, ?_⟩
    | refine ⟨_, if_pos (by first | assumption | omega), ?_⟩
    | refine ⟨_, _, rfl, le_sz rfl, ?_⟩
    | refine ⟨_, _, rfl, rfl, ?_⟩
    | refine ⟨_, _, rfl, if_pos (by first | assumption | omega), ?_⟩
    | refine ⟨_, rfl, rfl, ?_⟩
    | refine ⟨rfl, ?_⟩
    | exact rfl
    | dsimp only)
theorem at0 (a : D) (r : List D) : atI (a :: r) 0 = some a := L2.atI_nat (j := 0) rfl
theorem at1 (a b : D) (r : List D) : atI (a :: b :: r) 1 = some b := L2.atI_nat (j := 1) rfl
theorem at2 (a b c : D) (r : List D) : atI (a :: b :: c :: r) 2 = some c := L2.atI_nat (j := 2) rfl
theorem three {xs : List D} (h : (xs.length : Int) = 3) : ∃ a b c, xs = [a, b, c] := by
  match xs, h with
  | [a, b, c], _ => exact ⟨a, b, c, rfl⟩
  | [], h => simp at h
  | [_], h => simp at h
  | [_, _], h => simp at h
  | _ :: _ :: _ :: _ :: _, h => simp at h; omega
theorem is_column_ok {T : List Fn} {i iW iF iN b : Nat} (hT : T[i]? = some (f_is_column iF iN)) (hW : T[iW]? = some f_is_whole) (hF : T[iF]? = some (f_is_from iW)) (hN : T[iN]? = some f_is_name) (n : Nat) {d : D} (hd : Nc b d) (hb : b ≤ 1000) (S : St') : RP (FT T (n + 3) i [.t d] S) (Is S (.bl (colB d))) noE := by
  refine rp_fn hT rfl rfl ?_
  simp only [f_is_column, pad]
  cases hd with
  | @tup xs hx hl =>
    repeat' (first
    | with_reducible refine rp_var (by with_unfolding_all rfl) ?_
    | with_reducible refine rp_lit ?_
    | with_reducible refine rp_glb ?_
    | with_reducible refine rp_bin ?_
    | with_reducible refine rp_cmp ?_
    | with_reducible refine rp_cons ?_
    | with_reducible refine rp_nil ?_
    | with_reducible refine rp_idx ?_
    | with_reducible refine rp_call ?_
    | with_reducible refine rp_bi ?_
    | with_reducible refine rp_fz ?_
    | with_reducible refine rp_and ?_
    | with_reducible refine rp_or ?_
    | with_reducible refine rp_not ?_
    | with_reducible refine rp_ifT ?_
    | with_reducible refine rp_slc ?_
    | with_reducible refine rp_p0 ?_
    | with_reducible refine rp_p1 ?_
    | with_reducible refine rp_tup ?_
    | with_reducible refine rp_lst ?_
    | with_reducible refine rp_isi ?_
    | with_reducible refine rp_isit ?_
    | with_reducible refine rp_mth ?_
    | with_reducible refine rp_cmp2 ?_
    | with_reducible refine rp_neg ?_
    | with_reducible refine rp_t0 ?_
    | with_reducible refine rp_t1 ?_
    | with_reducible refine rp_lc ?_
    | with_reducible refine rp_lcL ?_
    | with_reducible refine rp_lstL ?_
    | with_reducible refine rp_catL ?_
    | with_reducible refine rp_listL ?_
    | with_reducible refine rp_of ?_
    | with_reducible refine rp_r1 ?_
    | with_reducible refine rp_r2 ?_
    | with_reducible refine rp_enum ?_
    | with_reducible refine rp_zip ?_
    | with_reducible refine op_nil ?_
    | with_reducible refine op_norm (by simp only [List.set_cons_succ, List.set_cons_zero, List.map_cons, List.map_nil, List.cons_append, List.nil_append]; rfl) (op_cons ?_)
    | with_reducible refine op_cons ?_
    | with_reducible refine op_asg ?_
    | with_reducible refine op_ifT ?_
    | with_reducible refine rt_and ?_
    | with_reducible refine rt_or ?_
    | with_reducible refine rt_not ?_
    | with_reducible refine rt_of ?_
    | with_reducible refine op_ret ?_
    | with_reducible refine op_new ?_
    | with_reducible refine op_app (by with_unfolding_all rfl) (by first | exact st_get | exact st_get2) ?_
    | with_reducible refine op_aug (by with_unfolding_all rfl) (by decide) ?_
    | with_reducible refine op_for ?_
    | with_reducible refine op_par ?_
    | with_reducible refine op_tp ?_
    | with_reducible refine op_seti (by with_unfolding_all rfl) ?_
    | with_reducible refine op_expr ?_
    | with_reducible refine op_doc ?_
    | with_reducible refine op_pass ?_
    | with_reducible refine op_retN ?_
    | with_reducible refine fin0 ?_
    | with_reducible refine fin1 ?_
    | with_reducible refine fino1 ?_
    | with_reducible refine fin2 ?_
    | refine ⟨_, _, _, _, rfl, st_get, lt_sz (by first | omega | (simp only [List.length_map, List.length_append, List.length_cons, List.length_nil]; omega)), st_set, ?_⟩
    | refine ⟨_, rfl, rngOk_in (by omega) (by omega), ?_⟩
    | refine ⟨_, src_live, ?_⟩
    | refine ⟨_, bi_live rfl, ?_⟩
    | (refine ⟨_, rfl, fun h => ?_, fun h => ?_⟩ <;> try (first | exact absurd h (by decide) | exact (f_t h).elim | exact (t_f h).elim))
    | refine ⟨_, rfl, ?_⟩
    | refine ⟨_, if_pos (by first | assumption | omega), ?_⟩
    | refine ⟨_, _, rfl, le_sz rfl, ?_⟩
    | refine ⟨_, _, rfl, rfl, ?_⟩
    | refine ⟨_, _, rfl, if_pos (by first | assumption | omega), ?_⟩
    | refine ⟨_, rfl, rfl, ?_⟩
    | refine ⟨rfl, ?_⟩
    | exact rfl
    | dsimp only)
    · have hne : ¬ (xs.length : Int) = 3 := by
        intro e
        have h' : (!deq (.int xs.length) (.int 3)) = true := h
        rw [deq, e] at h'
        cases h'
      match xs, hne with
      | [a, b, c], h => exact absurd rfl h
      | [], _ => rfl
      | [_], _ => rfl
      | [_, _], _ => rfl
      | _ :: _ :: _ :: _ :: _, _ => rfl
    · have h' : (!deq (.int xs.length) (.int 3)) = false := h
      rw [deq] at h'
      have h3 : (xs.length : Int) = 3 := by simpa using h'
      obtain ⟨x, y, z, rfl⟩ := three h3
      have q0 := at0 x [y, z]
      have q1 := at1 x y [z]
      have q2 := at2 x y z []
      repeat' (first
    | with_reducible refine rp_var (by with_unfolding_all rfl) ?_
    | refine ⟨_, q0, ?_⟩
    | refine ⟨_, q1, ?_⟩
    | refine ⟨_, q2, ?_⟩
    | with_reducible refine rp_lit ?_
    | with_reducible refine rp_glb ?_
    | with_reducible refine rp_bin ?_
    | with_reducible refine rp_cmp ?_
    | with_reducible refine rp_cons ?_
    | with_reducible refine rp_nil ?_
    | with_reducible refine rp_idx ?_
    | with_reducible refine rp_call ?_
    | with_reducible refine rp_bi ?_
    | with_reducible refine rp_fz ?_
    | with_reducible refine rp_and ?_
    | with_reducible refine rp_or ?_
    | with_reducible refine rp_not ?_
    | with_reducible refine rp_ifT ?_
    | with_reducible refine rp_slc ?_
    | with_reducible refine rp_p0 ?_
    | with_reducible refine rp_p1 ?_
    | with_reducible refine rp_tup ?_
    | with_reducible refine rp_lst ?_
    | with_reducible refine rp_isi ?_
    | with_reducible refine rp_isit ?_
    | with_reducible refine rp_mth ?_
    | with_reducible refine rp_cmp2 ?_
    | with_reducible refine rp_neg ?_
    | with_reducible refine rp_t0 ?_
    | with_reducible refine rp_t1 ?_
    | with_reducible refine rp_lc ?_
    | with_reducible refine rp_lcL ?_
    | with_reducible refine rp_lstL ?_
    | with_reducible refine rp_catL ?_
    | with_reducible refine rp_listL ?_
    | with_reducible refine rp_of ?_
    | with_reducible refine rp_r1 ?_
    | with_reducible refine rp_r2 ?_
    | with_reducible refine rp_enum ?_
    | with_reducible refine rp_zip ?_
    | with_reducible refine op_nil ?_
    | with_reducible refine op_norm (by simp only [List.set_cons_succ, List.set_cons_zero, List.map_cons, List.map_nil, List.cons_append, List.nil_append]; rfl) (op_cons ?_)
    | with_reducible refine op_cons ?_
    | with_reducible refine op_asg ?_
    | with_reducible refine op_ifT ?_
    | with_reducible refine rt_and ?_
    | with_reducible refine rt_or ?_
    | with_reducible refine rt_not ?_
    | with_reducible refine rt_of ?_
    | with_reducible refine op_ret ?_
    | with_reducible refine op_new ?_
    | with_reducible refine op_app (by with_unfolding_all rfl) (by first | exact st_get | exact st_get2) ?_
    | with_reducible refine op_aug (by with_unfolding_all rfl) (by decide) ?_
    | with_reducible refine op_for ?_
    | with_reducible refine op_par ?_
    | with_reducible refine op_tp ?_
    | with_reducible refine op_seti (by with_unfolding_all rfl) ?_
    | with_reducible refine op_expr ?_
    | with_reducible refine op_doc ?_
    | with_reducible refine op_pass ?_
    | with_reducible refine op_retN ?_
    | with_reducible refine fin0 ?_
    | with_reducible refine fin1 ?_
    | with_reducible refine fino1 ?_
    | with_reducible refine fin2 ?_
    | refine ⟨_, _, _, _, rfl, st_get, lt_sz (by first | omega | (simp only [List.length_map, List.length_append, List.length_cons, List.length_nil]; omega)), st_set, ?_⟩
    | refine ⟨_, rfl, rngOk_in (by omega) (by omega), ?_⟩
    | refine ⟨_, src_live, ?_⟩
    | refine ⟨_, bi_live rfl, ?_⟩
    | (refine ⟨_, rfl, fun h => ?_, fun h => ?_⟩ <;> try (first | exact absurd h (by decide) | exact (f_t h).elim | exact (t_f h).elim))
    | refine ⟨_, rfl, ?_⟩
    | refine ⟨_, if_pos (by first | assumption | omega), ?_⟩
    | refine ⟨_, _, rfl, le_sz rfl, ?_⟩
    | refine ⟨_, _, rfl, rfl, ?_⟩
    | refine ⟨_, _, rfl, if_pos (by first | assumption | omega), ?_⟩
    | refine ⟨_, rfl, rfl, ?_⟩
    | refine ⟨rfl, ?_⟩
    | exact rfl
    | dsimp only)
      refine RP.of_no (is_name_ok hN (n + 1) (hx x (by simp)) hb S) fun v S1 ⟨e1, e2⟩ => ?_
      subst e1; subst e2
      repeat' (first
    | with_reducible refine rp_var (by with_unfolding_all rfl) ?_
    | refine ⟨_, q0, ?_⟩
    | refine ⟨_, q1, ?_⟩
    | refine ⟨_, q2, ?_⟩
    | with_reducible refine rp_lit ?_
    | with_reducible refine rp_glb ?_
    | with_reducible refine rp_bin ?_
    | with_reducible refine rp_cmp ?_
    | with_reducible refine rp_cons ?_
    | with_reducible refine rp_nil ?_
    | with_reducible refine rp_idx ?_
    | with_reducible refine rp_call ?_
    | with_reducible refine rp_bi ?_
    | with_reducible refine rp_fz ?_
    | with_reducible refine rp_and ?_
    | with_reducible refine rp_or ?_
    | with_reducible refine rp_not ?_
    | with_reducible refine rp_ifT ?_
    | with_reducible refine rp_slc ?_
    | with_reducible refine rp_p0 ?_
    | with_reducible refine rp_p1 ?_
    | with_reducible refine rp_tup ?_
    | with_reducible refine rp_lst ?_
    | with_reducible refine rp_isi ?_
    | with_reducible refine rp_isit ?_
    | with_reducible refine rp_mth ?_
    | with_reducible refine rp_cmp2 ?_
    | with_reducible refine rp_neg ?_
    | with_reducible refine rp_t0 ?_
    | with_reducible refine rp_t1 ?_
    | with_reducible refine rp_lc ?_
    | with_reducible refine rp_lcL ?_
    | with_reducible refine rp_lstL ?_
    | with_reducible refine rp_catL ?_
    | with_reducible refine rp_listL ?_
    | with_reducible refine rp_of ?_
    | with_reducible refine rp_r1 ?_
    | with_reducible refine rp_r2 ?_
    | with_reducible refine rp_enum ?_
    | with_reducible refine rp_zip ?_
    | with_reducible refine op_nil ?_
    | with_reducible refine op_norm (by simp only [List.set_cons_succ, List.set_cons_zero, List.map_cons, List.map_nil, List.cons_append, List.nil_append]; rfl) (op_cons ?_)
    | with_reducible refine op_cons ?_
    | with_reducible refine op_asg ?_
    | with_reducible refine op_ifT ?_
    | with_reducible refine rt_and ?_
    | with_reducible refine rt_or ?_
    | with_reducible refine rt_not ?_
    | with_reducible refine rt_of ?_
    | with_reducible refine op_ret ?_
    | with_reducible refine op_new ?_
    | with_reducible refine op_app (by with_unfolding_all rfl) (by first | exact st_get | exact st_get2) ?_
    | with_reducible refine op_aug (by with_unfolding_all rfl) (by decide) ?_
    | with_reducible refine op_for ?_
    | with_reducible refine op_par ?_
    | with_reducible refine op_tp ?_
    | with_reducible refine op_seti (by with_unfolding_all rfl) ?_
    | with_reducible refine op_expr ?_
    | with_reducible refine op_doc ?_
    | with_reducible refine op_pass ?_
    | with_reducible refine op_retN ?_
    | with_reducible refine fin0 ?_
    | with_reducible refine fin1 ?_
    | with_reducible refine fino1 ?_
    | with_reducible refine fin2 ?_
    | refine ⟨_, _, _, _, rfl, st_get, lt_sz (by first | omega | (simp only [List.length_map, List.length_append, List.length_cons, List.length_nil]; omega)), st_set, ?_⟩
    | refine ⟨_, rfl, rngOk_in (by omega) (by omega), ?_⟩
    | refine ⟨_, src_live, ?_⟩
    | refine ⟨_, bi_live rfl, ?_⟩
    | (refine ⟨_, rfl, fun h => ?_, fun h => ?_⟩ <;> try (first | exact absurd h (by decide) | exact (f_t h).elim | exact (t_f h).elim))
    | refine ⟨_, rfl, ?_⟩
    | refine ⟨_, if_pos (by first | assumption | omega), ?_⟩
    | refine ⟨_, _, rfl, le_sz rfl, ?_⟩
    | refine ⟨_, _, rfl, rfl, ?_⟩
    | refine ⟨_, _, rfl, if_pos (by first | assumption | omega), ?_⟩
    | refine ⟨_, rfl, rfl, ?_⟩
    | refine ⟨rfl, ?_⟩
    | exact rfl
    | dsimp only)
      · refine RP.of_no (is_from_ok hF hW n y 1 9 _) fun v S1 ⟨e1, e2⟩ => ?_
        subst e1; subst e2
        repeat' (first
    | with_reducible refine rp_var (by with_unfolding_all rfl) ?_
    | refine ⟨_, q0, ?_⟩
    | refine ⟨_, q1, ?_⟩
    | refine ⟨_, q2, ?_⟩
    | with_reducible refine rp_lit ?_
    | with_reducible refine rp_glb ?_
    | with_reducible refine rp_bin ?_
    | with_reducible refine rp_cmp ?_
    | with_reducible refine rp_cons ?_
    | with_reducible refine rp_nil ?_
    | with_reducible refine rp_idx ?_
    | with_reducible refine rp_call ?_
    | with_reducible refine rp_bi ?_
    | with_reducible refine rp_fz ?_
    | with_reducible refine rp_and ?_
    | with_reducible refine rp_or ?_
    | with_reducible refine rp_not ?_
    | with_reducible refine rp_ifT ?_
    | with_reducible refine rp_slc ?_
    | with_reducible refine rp_p0 ?_
    | with_reducible refine rp_p1 ?_
    | with_reducible refine rp_tup ?_
    | with_reducible refine rp_lst ?_
    | with_reducible refine rp_isi ?_
    | with_reducible refine rp_isit ?_
    | with_reducible refine rp_mth ?_
    | with_reducible refine rp_cmp2 ?_
    | with_reducible refine rp_neg ?_
    | with_reducible refine rp_t0 ?_
    | with_reducible refine rp_t1 ?_
    | with_reducible refine rp_lc ?_
    | with_reducible refine rp_lcL ?_
    | with_reducible refine rp_lstL ?_
    | with_reducible refine rp_catL ?_
    | with_reducible refine rp_listL ?_
    | with_reducible refine rp_of ?_
    | with_reducible refine rp_r1 ?_
    | with_reducible refine rp_r2 ?_
    | with_reducible refine rp_enum ?_
    | with_reducible refine rp_zip ?_
    | with_reducible refine op_nil ?_
    | with_reducible refine op_norm (by simp only [List.set_cons_succ, List.set_cons_zero, List.map_cons, List.map_nil, List.cons_append, List.nil_append]; rfl) (op_cons ?_)
    | with_reducible refine op_cons ?_
    | with_reducible refine op_asg ?_
    | with_reducible refine op_ifT ?_
    | with_reducible refine rt_and ?_
    | with_reducible refine rt_or ?_
    | with_reducible refine rt_not ?_
    | with_reducible refine rt_of ?_
    | with_reducible refine op_ret ?_
    | with_reducible refine op_new ?_
    | with_reducible refine op_app (by with_unfolding_all rfl) (by first | exact st_get | exact st_get2) ?_
    | with_reducible refine op_aug (by with_unfolding_all rfl) (by decide) ?_
    | with_reducible refine op_for ?_
    | with_reducible refine op_par ?_
    | with_reducible refine op_tp ?_
    | with_reducible refine op_seti (by with_unfolding_all rfl) ?_
    | with_reducible refine op_expr ?_
    | with_reducible refine op_doc ?_
    | with_reducible refine op_pass ?_
    | with_reducible refine op_retN ?_
    | with_reducible refine fin0 ?_
    | with_reducible refine fin1 ?_
    | with_reducible refine fino1 ?_
    | with_reducible refine fin2 ?_
    | refine ⟨_, _, _, _, rfl, st_get, lt_sz (by first | omega | (simp only [List.length_map, List.length_append, List.length_cons, List.length_nil]; omega)), st_set, ?_⟩
    | refine ⟨_, rfl, rngOk_in (by omega) (by omega), ?_⟩
    | refine ⟨_, src_live, ?_⟩
    | refine ⟨_, bi_live rfl, ?_⟩
    | (refine ⟨_, rfl, fun h => ?_, fun h => ?_⟩ <;> try (first | exact absurd h (by decide) | exact (f_t h).elim | exact (t_f h).elim))
    | refine ⟨_, rfl, ?_⟩
    | refine ⟨_, if_pos (by first | assumption | omega), ?_⟩
    | refine ⟨_, _, rfl, le_sz rfl, ?_⟩
    | refine ⟨_, _, rfl, rfl, ?_⟩
    | refine ⟨_, _, rfl, if_pos (by first | assumption | omega), ?_⟩
    | refine ⟨_, rfl, rfl, ?_⟩
    | refine ⟨rfl, ?_⟩
    | exact rfl
    | dsimp only)
        · cases z <;> simp [colB, blB, isiD, *]
        · simp [colB, *]
      · simp [colB, *]
  | _ => repeat' (first
    | with_reducible refine rp_var (by with_unfolding_all rfl) ?_
    | with_reducible refine rp_lit ?_
    | with_reducible refine rp_glb ?_
    | with_reducible refine rp_bin ?_
    | with_reducible refine rp_cmp ?_
    | with_reducible refine rp_cons ?_
    | with_reducible refine rp_nil ?_
    | with_reducible refine rp_idx ?_
    | with_reducible refine rp_call ?_
    | with_reducible refine rp_bi ?_
    | with_reducible refine rp_fz ?_
    | with_reducible refine rp_and ?_
    | with_reducible refine rp_or ?_
    | with_reducible refine rp_not ?_
    | with_reducible refine rp_ifT ?_
    | with_reducible refine rp_slc ?_
    | with_reducible refine rp_p0 ?_
    | with_reducible refine rp_p1 ?_
    | with_reducible refine rp_tup ?_
    | with_reducible refine rp_lst ?_
    | with_reducible refine rp_isi ?_
    | with_reducible refine rp_isit ?_
    | with_reducible refine rp_mth ?_
    | with_reducible refine rp_cmp2 ?_
    | with_reducible refine rp_neg ?_
    | with_reducible refine rp_t0 ?_
    | with_reducible refine rp_t1 ?_
    | with_reducible refine rp_lc ?_
    | with_reducible refine rp_lcL ?_
    | with_reducible refine rp_lstL ?_
    | with_reducible refine rp_catL ?_
    | with_reducible refine rp_listL ?_
    | with_reducible refine rp_of ?_
    | with_reducible refine rp_r1 ?_
    | with_reducible refine rp_r2 ?_
    | with_reducible refine rp_enum ?_
    | with_reducible refine rp_zip ?_
    | with_reducible refine op_nil ?_
    | with_reducible refine op_norm (by simp only [List.set_cons_succ, List.set_cons_zero, List.map_cons, List.map_nil, List.cons_append, List.nil_append]; rfl) (op_cons ?_)
    | with_reducible refine op_cons ?_
    | with_reducible refine op_asg ?_
    | with_reducible refine op_ifT ?_
    | with_reducible refine rt_and ?_
    | with_reducible refine rt_or ?_
    | with_reducible refine rt_not ?_
    | with_reducible refine rt_of ?_
    | with_reducible refine op_ret ?_
    | with_reducible refine op_new ?_
    | with_reducible refine op_app (by with_unfolding_all rfl) (by first | exact st_get | exact st_get2) ?_
    | with_reducible refine op_aug (by with_unfolding_all rfl) (by decide) ?_
    | with_reducible refine op_for ?_
    | with_reducible refine op_par ?_
    | with_reducible refine op_tp ?_
    | with_reducible refine op_seti (by with_unfolding_all rfl) ?_
    | with_reducible refine op_expr ?_
    | with_reducible refine op_doc ?_
    | with_reducible refine op_pass ?_
    | with_reducible refine op_retN ?_
    | with_reducible refine fin0 ?_
    | with_reducible refine fin1 ?_
    | with_reducible refine fino1 ?_
    | with_reducible refine fin2 ?_
    | refine ⟨_, _, _, _, rfl, st_get, lt_sz (by first | omega | (simp only [List.length_map, List.length_append, List.length_cons, List.length_nil]; omega)), st_set, ?_⟩
    | refine ⟨_, rfl, rngOk_in (by omega) (by omega), ?_⟩
    | refine ⟨_, src_live, ?_⟩
    | refine ⟨_, bi_live rfl, ?_⟩
    | (refine ⟨_, rfl, fun h => ?_, fun h => ?_⟩ <;> try (first | exact absurd h (by decide) | exact (f_t h).elim | exact (t_f h).elim))
    | refine ⟨_, rfl, ?_⟩
    | refine ⟨_, if_pos (by first | assumption | omega), ?_⟩
    | refine ⟨_, _, rfl, le_sz rfl, ?_⟩
    | refine ⟨_, _, rfl, rfl, ?_⟩
    | refine ⟨_, _, rfl, if_pos (by first | assumption | omega), ?_⟩
    | refine ⟨_, rfl, rfl, ?_⟩
    | refine ⟨rfl, ?_⟩
    | exact rfl
    | dsimp only)
theorem colB_shape {c : D} (h : colB c = true) : ∃ w lo x, c = .tup [.str w, .int lo, .bl x] ∧ nameS w = true ∧ 1 ≤ lo ∧ lo ≤ 9 := by
  cases c with
  | tup xs =>
    match xs, h with
    | [a, b, c], h =>
      simp only [colB, Bool.and_eq_true] at h
      obtain ⟨h1, h2, h3⟩ := h
      cases a <;> simp only [nameB, Bool.false_eq_true] at h1
      cases b <;> simp only [fromB, Bool.false_eq_true, Bool.and_eq_true, decide_eq_true_eq] at h2
      cases c <;> simp only [blB, Bool.false_eq_true] at h3
      exact ⟨_, _, _, rfl, h1, h2⟩
    | [], h => cases h
    | [_], h => cases h
    | [_, _], h => cases h
    | _ :: _ :: _ :: _ :: _, h => cases h
  | _ => cases h
theorem col_at0 {c : D} (h : colB c = true) : idxD c (.int 0) = some (.str (strD (fstD c))) := by
  obtain ⟨w, lo, x, rfl, -⟩ := colB_shape h
  exact at0 _ _
theorem col_at2 {c : D} (h : colB c = true) : idxD c (.int 2) = some (.bl (trdB c)) := by
  obtain ⟨w, lo, x, rfl, -⟩ := colB_shape h
  exact at2 _ _ _ _
theorem col_name {c : D} (h : colB c = true) : nameS (strD (fstD c)) = true := by
  obtain ⟨w, lo, x, rfl, h, -⟩ := colB_shape h
  exact h
theorem nameS_ok {w : Str} (h : nameS w = true) : PyData.strOk w = true ∧ w.length ≤ 8 ∧ 1 ≤ w.length := by
  simp only [nameS, Bool.and_eq_true, decide_eq_true_eq, List.all_eq_true] at h
  refine ⟨Lw.ok fun c hc => ?_, h.1.1.2, h.1.1.1⟩
  exact of_decide_eq_true (h.2 c hc)
def areB : D → Bool
  | .tup xs => !xs.isEmpty && (xs.all nameB && decide (xs.map strD).Nodup)
  | _ => false
theorem names_strs {xs : List D} (h : xs.all nameB = true) : xs = (xs.map strD).map D.str := by
  rw [List.map_map]
  conv => lhs; rw [← List.map_id xs]
  apply List.map_congr_left
  intro x hx
  have := List.all_eq_true.mp h x hx
  cases x <;> first | rfl | cases this
theorem are_names_ok {T : List Fn} {i iN b : Nat} (hT : T[i]? = some (f_are_names iN)) (hN : T[iN]? = some f_is_name) (n : Nat) {d : D} (hd : Nc b d) (hb : b ≤ 1000) (S : St') : RP (FT T (n + 2) i [.t d] S) (Is S (.bl (areB d))) noE := by
  refine rp_fn hT rfl rfl ?_
  simp only [f_are_names, pad]
  cases hd with
  | @tup xs hx hl =>
    repeat' (first
    | with_reducible refine rp_var (by with_unfolding_all rfl) ?_
    | with_reducible refine rp_lit ?_
    | with_reducible refine rp_glb ?_
    | with_reducible refine rp_bin ?_
    | with_reducible refine rp_cmp ?_
    | with_reducible refine rp_cons ?_
    | with_reducible refine rp_nil ?_
    | with_reducible refine rp_idx ?_
    | with_reducible refine rp_call ?_
    | with_reducible refine rp_bi ?_
    | with_reducible refine rp_fz ?_
    | with_reducible refine rp_and ?_
    | with_reducible refine rp_or ?_
    | with_reducible refine rp_not ?_
    | with_reducible refine rp_ifT ?_
    | with_reducible refine rp_slc ?_
    | with_reducible refine rp_p0 ?_
    | with_reducible refine rp_p1 ?_
    | with_reducible refine rp_tup ?_
    | with_reducible refine rp_lst ?_
    | with_reducible refine rp_isi ?_
    | with_reducible refine rp_isit ?_
    | with_reducible refine rp_mth ?_
    | with_reducible refine rp_cmp2 ?_
    | with_reducible refine rp_neg ?_
    | with_reducible refine rp_t0 ?_
    | with_reducible refine rp_t1 ?_
    | with_reducible refine rp_lc ?_
    | with_reducible refine rp_lcL ?_
    | with_reducible refine rp_lstL ?_
    | with_reducible refine rp_catL ?_
    | with_reducible refine rp_listL ?_
    | with_reducible refine rp_of ?_
    | with_reducible refine rp_r1 ?_
    | with_reducible refine rp_r2 ?_
    | with_reducible refine rp_enum ?_
    | with_reducible refine rp_zip ?_
    | with_reducible refine op_nil ?_
    | with_reducible refine op_norm (by simp only [List.set_cons_succ, List.set_cons_zero, List.map_cons, List.map_nil, List.cons_append, List.nil_append]; rfl) (op_cons ?_)
    | with_reducible refine op_cons ?_
    | with_reducible refine op_asg ?_
    | with_reducible refine op_ifT ?_
    | with_reducible refine rt_and ?_
    | with_reducible refine rt_or ?_
    | with_reducible refine rt_not ?_
    | with_reducible refine rt_of ?_
    | with_reducible refine op_ret ?_
    | with_reducible refine op_new ?_
    | with_reducible refine op_app (by with_unfolding_all rfl) (by first | exact st_get | exact st_get2) ?_
    | with_reducible refine op_aug (by with_unfolding_all rfl) (by decide) ?_
    | with_reducible refine op_for ?_
    | with_reducible refine op_par ?_
    | with_reducible refine op_tp ?_
    | with_reducible refine op_seti (by with_unfolding_all rfl) ?_
    | with_reducible refine op_expr ?_
    | with_reducible refine op_doc ?_
    | with_reducible refine op_pass ?_
    | with_reducible refine op_retN ?_
    | with_reducible refine fin0 ?_
    | with_reducible refine fin1 ?_
    | with_reducible refine fino1 ?_
    | with_reducible refine fin2 ?_
    | refine ⟨_, _, _, _, rfl, st_get, lt_sz (by first | omega | (simp only [List.length_map, List.length_append, List.length_cons, List.length_nil]; omega)), st_set, ?_⟩
    | refine ⟨_, rfl, rngOk_in (by omega) (by omega), ?_⟩
    | refine ⟨_, src_live, ?_⟩
    | refine ⟨_, bi_live rfl, ?_⟩
    | (refine ⟨_, rfl, fun h => ?_, fun h => ?_⟩ <;> try (first | exact absurd h (by decide) | exact (f_t h).elim | exact (t_f h).elim))
    | refine ⟨_, rfl, ?_⟩
    | refine ⟨_, if_pos (by first | assumption | omega), ?_⟩
    | refine ⟨_, _, rfl, le_sz rfl, ?_⟩
    | refine ⟨_, _, rfl, rfl, ?_⟩
    | refine ⟨_, _, rfl, if_pos (by first | assumption | omega), ?_⟩
    | refine ⟨_, rfl, rfl, ?_⟩
    | refine ⟨rfl, ?_⟩
    | exact rfl
    | dsimp only)
    · have h' : deq (.int xs.length) (.int 0) = true := h
      rw [deq] at h'
      have : xs = [] := by simpa using h'
      subst this
      rfl
    · have h' : deq (.int xs.length) (.int 0) = false := h
      rw [deq] at h'
      have hne : xs ≠ [] := by intro e; subst e; simp at h'
      have hie : xs.isEmpty = false := by cases xs with
        | nil => exact absurd rfl hne
        | cons => rfl
      refine rp_lcI (fun x => .bl (nameB x)) (by omega) (fun x hxx acc => ?_) ?_
      · refine ⟨_, rfl, ?_⟩
        repeat' (first
    | with_reducible refine rp_var (by with_unfolding_all rfl) ?_
    | with_reducible refine rp_lit ?_
    | with_reducible refine rp_glb ?_
    | with_reducible refine rp_bin ?_
    | with_reducible refine rp_cmp ?_
    | with_reducible refine rp_cons ?_
    | with_reducible refine rp_nil ?_
    | with_reducible refine rp_idx ?_
    | with_reducible refine rp_call ?_
    | with_reducible refine rp_bi ?_
    | with_reducible refine rp_fz ?_
    | with_reducible refine rp_and ?_
    | with_reducible refine rp_or ?_
    | with_reducible refine rp_not ?_
    | with_reducible refine rp_ifT ?_
    | with_reducible refine rp_slc ?_
    | with_reducible refine rp_p0 ?_
    | with_reducible refine rp_p1 ?_
    | with_reducible refine rp_tup ?_
    | with_reducible refine rp_lst ?_
    | with_reducible refine rp_isi ?_
    | with_reducible refine rp_isit ?_
    | with_reducible refine rp_mth ?_
    | with_reducible refine rp_cmp2 ?_
    | with_reducible refine rp_neg ?_
    | with_reducible refine rp_t0 ?_
    | with_reducible refine rp_t1 ?_
    | with_reducible refine rp_lc ?_
    | with_reducible refine rp_lcL ?_
    | with_reducible refine rp_lstL ?_
    | with_reducible refine rp_catL ?_
    | with_reducible refine rp_listL ?_
    | with_reducible refine rp_of ?_
    | with_reducible refine rp_r1 ?_
    | with_reducible refine rp_r2 ?_
    | with_reducible refine rp_enum ?_
    | with_reducible refine rp_zip ?_
    | with_reducible refine op_nil ?_
    | with_reducible refine op_norm (by simp only [List.set_cons_succ, List.set_cons_zero, List.map_cons, List.map_nil, List.cons_append, List.nil_append]; rfl) (op_cons ?_)
    | with_reducible refine op_cons ?_
    | with_reducible refine op_asg ?_
    | with_reducible refine op_ifT ?_
    | with_reducible refine rt_and ?_
    | with_reducible refine rt_or ?_
    | with_reducible refine rt_not ?_
    | with_reducible refine rt_of ?_
    | with_reducible refine op_ret ?_
    | with_reducible refine op_new ?_
    | with_reducible refine op_app (by with_unfolding_all rfl) (by first | exact st_get | exact st_get2) ?_
    | with_reducible refine op_aug (by with_unfolding_all rfl) (by decide) ?_
    | with_reducible refine op_for ?_
    | with_reducible refine op_par ?_
    | with_reducible refine op_tp ?_
    | with_reducible refine op_seti (by with_unfolding_all rfl) ?_
    | with_reducible refine op_expr ?_
    | with_reducible refine op_doc ?_
    | with_reducible refine op_pass ?_
    | with_reducible refine op_retN ?_
    | with_reducible refine fin0 ?_
    | with_reducible refine fin1 ?_
    | with_reducible refine fino1 ?_
    | with_reducible refine fin2 ?_
    | refine ⟨_, _, _, _, rfl, st_get, lt_sz (by first | omega | (simp only [List.length_map, List.length_append, List.length_cons, List.length_nil]; omega)), st_set, ?_⟩
    | refine ⟨_, rfl, rngOk_in (by omega) (by omega), ?_⟩
    | refine ⟨_, src_live, ?_⟩
    | refine ⟨_, bi_live rfl, ?_⟩
    | (refine ⟨_, rfl, fun h => ?_, fun h => ?_⟩ <;> try (first | exact absurd h (by decide) | exact (f_t h).elim | exact (t_f h).elim))
    | refine ⟨_, rfl, ?_⟩
    | refine ⟨_, if_pos (by first | assumption | omega), ?_⟩
    | refine ⟨_, _, rfl, le_sz rfl, ?_⟩
    | refine ⟨_, _, rfl, rfl, ?_⟩
    | refine ⟨_, _, rfl, if_pos (by first | assumption | omega), ?_⟩
    | refine ⟨_, rfl, rfl, ?_⟩
    | refine ⟨rfl, ?_⟩
    | exact rfl
    | dsimp only)
        refine RP.of_no (is_name_ok hN n (hx x hxx) hb _) fun v S1 ⟨e1, e2⟩ => ⟨e2, e1⟩
      · repeat' (first
    | with_reducible refine rp_var (by with_unfolding_all rfl) ?_
    | refine ⟨_, all_bls nameB xs, ?_⟩
    | with_reducible refine rp_lit ?_
    | with_reducible refine rp_glb ?_
    | with_reducible refine rp_bin ?_
    | with_reducible refine rp_cmp ?_
    | with_reducible refine rp_cons ?_
    | with_reducible refine rp_nil ?_
    | with_reducible refine rp_idx ?_
    | with_reducible refine rp_call ?_
    | with_reducible refine rp_bi ?_
    | with_reducible refine rp_fz ?_
    | with_reducible refine rp_and ?_
    | with_reducible refine rp_or ?_
    | with_reducible refine rp_not ?_
    | with_reducible refine rp_ifT ?_
    | with_reducible refine rp_slc ?_
    | with_reducible refine rp_p0 ?_
    | with_reducible refine rp_p1 ?_
    | with_reducible refine rp_tup ?_
    | with_reducible refine rp_lst ?_
    | with_reducible refine rp_isi ?_
    | with_reducible refine rp_isit ?_
    | with_reducible refine rp_mth ?_
    | with_reducible refine rp_cmp2 ?_
    | with_reducible refine rp_neg ?_
    | with_reducible refine rp_t0 ?_
    | with_reducible refine rp_t1 ?_
    | with_reducible refine rp_lc ?_
    | with_reducible refine rp_lcL ?_
    | with_reducible refine rp_lstL ?_
    | with_reducible refine rp_catL ?_
    | with_reducible refine rp_listL ?_
    | with_reducible refine rp_of ?_
    | with_reducible refine rp_r1 ?_
    | with_reducible refine rp_r2 ?_
    | with_reducible refine rp_enum ?_
    | with_reducible refine rp_zip ?_
    | with_reducible refine op_nil ?_
    | with_reducible refine op_norm (by simp only [List.set_cons_succ, List.set_cons_zero, List.map_cons, List.map_nil, List.cons_append, List.nil_append]; rfl) (op_cons ?_)
    | with_reducible refine op_cons ?_
    | with_reducible refine op_asg ?_
    | with_reducible refine op_ifT ?_
    | with_reducible refine rt_and ?_
    | with_reducible refine rt_or ?_
    | with_reducible refine rt_not ?_
    | with_reducible refine rt_of ?_
    | with_reducible refine op_ret ?_
    | with_reducible refine op_new ?_
    | with_reducible refine op_app (by with_unfolding_all rfl) (by first | exact st_get | exact st_get2) ?_
    | with_reducible refine op_aug (by with_unfolding_all rfl) (by decide) ?_
    | with_reducible refine op_for ?_
    | with_reducible refine op_par ?_
    | with_reducible refine op_tp ?_
    | with_reducible refine op_seti (by with_unfolding_all rfl) ?_
    | with_reducible refine op_expr ?_
    | with_reducible refine op_doc ?_
    | with_reducible refine op_pass ?_
    | with_reducible refine op_retN ?_
    | with_reducible refine fin0 ?_
    | with_reducible refine fin1 ?_
    | with_reducible refine fino1 ?_
    | with_reducible refine fin2 ?_
    | refine ⟨_, _, _, _, rfl, st_get, lt_sz (by first | omega | (simp only [List.length_map, List.length_append, List.length_cons, List.length_nil]; omega)), st_set, ?_⟩
    | refine ⟨_, rfl, rngOk_in (by omega) (by omega), ?_⟩
    | refine ⟨_, src_live, ?_⟩
    | refine ⟨_, bi_live rfl, ?_⟩
    | (refine ⟨_, rfl, fun h => ?_, fun h => ?_⟩ <;> try (first | exact absurd h (by decide) | exact (f_t h).elim | exact (t_f h).elim))
    | refine ⟨_, rfl, ?_⟩
    | refine ⟨_, if_pos (by first | assumption | omega), ?_⟩
    | refine ⟨_, _, rfl, le_sz rfl, ?_⟩
    | refine ⟨_, _, rfl, rfl, ?_⟩
    | refine ⟨_, _, rfl, if_pos (by first | assumption | omega), ?_⟩
    | refine ⟨_, rfl, rfl, ?_⟩
    | refine ⟨rfl, ?_⟩
    | exact rfl
    | dsimp only)
        · have es := names_strs h
          have e1 : lensetD (.tup xs) = some (.int ((dset (xs.map strD)).length : Nat)) := lenset_strs (by simpa using Nat.le_trans hl hb) _ (.inl (by rw [← es]))
          repeat' (first
    | with_reducible refine rp_var (by with_unfolding_all rfl) ?_
    | refine ⟨_, e1, ?_⟩
    | with_reducible refine rp_lit ?_
    | with_reducible refine rp_glb ?_
    | with_reducible refine rp_bin ?_
    | with_reducible refine rp_cmp ?_
    | with_reducible refine rp_cons ?_
    | with_reducible refine rp_nil ?_
    | with_reducible refine rp_idx ?_
    | with_reducible refine rp_call ?_
    | with_reducible refine rp_bi ?_
    | with_reducible refine rp_fz ?_
    | with_reducible refine rp_and ?_
    | with_reducible refine rp_or ?_
    | with_reducible refine rp_not ?_
    | with_reducible refine rp_ifT ?_
    | with_reducible refine rp_slc ?_
    | with_reducible refine rp_p0 ?_
    | with_reducible refine rp_p1 ?_
    | with_reducible refine rp_tup ?_
    | with_reducible refine rp_lst ?_
    | with_reducible refine rp_isi ?_
    | with_reducible refine rp_isit ?_
    | with_reducible refine rp_mth ?_
    | with_reducible refine rp_cmp2 ?_
    | with_reducible refine rp_neg ?_
    | with_reducible refine rp_t0 ?_
    | with_reducible refine rp_t1 ?_
    | with_reducible refine rp_lc ?_
    | with_reducible refine rp_lcL ?_
    | with_reducible refine rp_lstL ?_
    | with_reducible refine rp_catL ?_
    | with_reducible refine rp_listL ?_
    | with_reducible refine rp_of ?_
    | with_reducible refine rp_r1 ?_
    | with_reducible refine rp_r2 ?_
    | with_reducible refine rp_enum ?_
    | with_reducible refine rp_zip ?_
    | with_reducible refine op_nil ?_
    | with_reducible refine op_norm (by simp only [List.set_cons_succ, List.set_cons_zero, List.map_cons, List.map_nil, List.cons_append, List.nil_append]; rfl) (op_cons ?_)
    | with_reducible refine op_cons ?_
    | with_reducible refine op_asg ?_
    | with_reducible refine op_ifT ?_
    | with_reducible refine rt_and ?_
    | with_reducible refine rt_or ?_
    | with_reducible refine rt_not ?_
    | with_reducible refine rt_of ?_
    | with_reducible refine op_ret ?_
    | with_reducible refine op_new ?_
    | with_reducible refine op_app (by with_unfolding_all rfl) (by first | exact st_get | exact st_get2) ?_
    | with_reducible refine op_aug (by with_unfolding_all rfl) (by decide) ?_
    | with_reducible refine op_for ?_
    | with_reducible refine op_par ?_
    | with_reducible refine op_tp ?_
    | with_reducible refine op_seti (by with_unfolding_all rfl) ?_
    | with_reducible refine op_expr ?_
    | with_reducible refine op_doc ?_
    | with_reducible refine op_pass ?_
    | with_reducible refine op_retN ?_
    | with_reducible refine fin0 ?_
    | with_reducible refine fin1 ?_
    | with_reducible refine fino1 ?_
    | with_reducible refine fin2 ?_
    | refine ⟨_, _, _, _, rfl, st_get, lt_sz (by first | omega | (simp only [List.length_map, List.length_append, List.length_cons, List.length_nil]; omega)), st_set, ?_⟩
    | refine ⟨_, rfl, rngOk_in (by omega) (by omega), ?_⟩
    | refine ⟨_, src_live, ?_⟩
    | refine ⟨_, bi_live rfl, ?_⟩
    | (refine ⟨_, rfl, fun h => ?_, fun h => ?_⟩ <;> try (first | exact absurd h (by decide) | exact (f_t h).elim | exact (t_f h).elim))
    | refine ⟨_, rfl, ?_⟩
    | refine ⟨_, if_pos (by first | assumption | omega), ?_⟩
    | refine ⟨_, _, rfl, le_sz rfl, ?_⟩
    | refine ⟨_, _, rfl, rfl, ?_⟩
    | refine ⟨_, _, rfl, if_pos (by first | assumption | omega), ?_⟩
    | refine ⟨_, rfl, rfl, ?_⟩
    | refine ⟨rfl, ?_⟩
    | exact rfl
    | dsimp only)
          simp only [areB, hie, h, Bool.not_false, Bool.true_and]
          congr 2
          rw [deq]
          have e2 := dset_full (xs.map strD)
          rw [List.length_map] at e2
          by_cases hn : (xs.map strD).Nodup
          · have e3 := e2.mpr hn
            simp only [hn, decide_true, beq_iff_eq]
            omega
          · have : ¬ (dset (xs.map strD)).length = xs.length := fun e => hn (e2.mp e)
            simp only [hn, decide_false, beq_eq_false_iff_ne, ne_eq]
            omega
        · simp [areB, *]
  | _ => repeat' (first
    | with_reducible refine rp_var (by with_unfolding_all rfl) ?_
    | with_reducible refine rp_lit ?_
    | with_reducible refine rp_glb ?_
    | with_reducible refine rp_bin ?_
    | with_reducible refine rp_cmp ?_
    | with_reducible refine rp_cons ?_
    | with_reducible refine rp_nil ?_
    | with_reducible refine rp_idx ?_
    | with_reducible refine rp_call ?_
    | with_reducible refine rp_bi ?_
    | with_reducible refine rp_fz ?_
    | with_reducible refine rp_and ?_
    | with_reducible refine rp_or ?_
    | with_reducible refine rp_not ?_
    | with_reducible refine rp_ifT ?_
    | with_reducible refine rp_slc ?_
    | with_reducible refine rp_p0 ?_
    | with_reducible refine rp_p1 ?_
    | with_reducible refine rp_tup ?_
    | with_reducible refine rp_lst ?_
    | with_reducible refine rp_isi ?_
    | with_reducible refine rp_isit ?_
    | with_reducible refine rp_mth ?_
    | with_reducible refine rp_cmp2 ?_
    | with_reducible refine rp_neg ?_
    | with_reducible refine rp_t0 ?_
    | with_reducible refine rp_t1 ?_
    | with_reducible refine rp_lc ?_
    | with_reducible refine rp_lcL ?_
    | with_reducible refine rp_lstL ?_
    | with_reducible refine rp_catL ?_
    | with_reducible refine rp_listL ?_
    | with_reducible refine rp_of ?_
    | with_reducible refine rp_r1 ?_
    | with_reducible refine rp_r2 ?_
    | with_reducible refine rp_enum ?_
    | with_reducible refine rp_zip ?_
    | with_reducible refine op_nil ?_
    | with_reducible refine op_norm (by simp only [List.set_cons_succ, List.set_cons_zero, List.map_cons, List.map_nil, List.cons_append, List.nil_append]; rfl) (op_cons ?_)
    | with_reducible refine op_cons ?_
    | with_reducible refine op_asg ?_
    | with_reducible refine op_ifT ?_
    | with_reducible refine rt_and ?_
    | with_reducible refine rt_or ?_
    | with_reducible refine rt_not ?_
    | with_reducible refine rt_of ?_
    | with_reducible refine op_ret ?_
    | with_reducible refine op_new ?_
    | with_reducible refine op_app (by with_unfolding_all rfl) (by first | exact st_get | exact st_get2) ?_
    | with_reducible refine op_aug (by with_unfolding_all rfl) (by decide) ?_
    | with_reducible refine op_for ?_
    | with_reducible refine op_par ?_
    | with_reducible refine op_tp ?_
    | with_reducible refine op_seti (by with_unfolding_all rfl) ?_
    | with_reducible refine op_expr ?_
    | with_reducible refine op_doc ?_
    | with_reducible refine op_pass ?_
    | with_reducible refine op_retN ?_
    | with_reducible refine fin0 ?_
    | with_reducible refine fin1 ?_
    | with_reducible refine fino1 ?_
    | with_reducible refine fin2 ?_
    | refine ⟨_, _, _, _, rfl, st_get, lt_sz (by first | omega | (simp only [List.length_map, List.length_append, List.length_cons, List.length_nil]; omega)), st_set, ?_⟩
    | refine ⟨_, rfl, rngOk_in (by omega) (by omega), ?_⟩
    | refine ⟨_, src_live, ?_⟩
    | refine ⟨_, bi_live rfl, ?_⟩
    | (refine ⟨_, rfl, fun h => ?_, fun h => ?_⟩ <;> try (first | exact absurd h (by decide) | exact (f_t h).elim | exact (t_f h).elim))
    | refine ⟨_, rfl, ?_⟩
    | refine ⟨_, if_pos (by first | assumption | omega), ?_⟩
    | refine ⟨_, _, rfl, le_sz rfl, ?_⟩
    | refine ⟨_, _, rfl, rfl, ?_⟩
    | refine ⟨_, _, rfl, if_pos (by first | assumption | omega), ?_⟩
    | refine ⟨_, rfl, rfl, ?_⟩
    | refine ⟨rfl, ?_⟩
    | exact rfl
    | dsimp only)
theorem names_of_ok {T : List Fn} {i : Nat} (hT : T[i]? = some f_names_of) (n : Nat) {a b : D} {cs : List D} (hc : cs.all colB = true) (hl : cs.length ≤ 1000) (S : St') : RP (FT T (n + 1) i [.t (.tup [a, b, .tup cs])] S) (Is S (.tup ((namesOf cs).map .str))) noE := by
  refine rp_fn hT rfl rfl ?_
  simp only [f_names_of, pad]
  have q2 := at2 a b (.tup cs) []
  repeat' (first
    | with_reducible refine rp_var (by with_unfolding_all rfl) ?_
    | refine ⟨_, q2, ?_⟩
    | with_reducible refine rp_lit ?_
    | with_reducible refine rp_glb ?_
    | with_reducible refine rp_bin ?_
    | with_reducible refine rp_cmp ?_
    | with_reducible refine rp_cons ?_
    | with_reducible refine rp_nil ?_
    | with_reducible refine rp_idx ?_
    | with_reducible refine rp_call ?_
    | with_reducible refine rp_bi ?_
    | with_reducible refine rp_fz ?_
    | with_reducible refine rp_and ?_
    | with_reducible refine rp_or ?_
    | with_reducible refine rp_not ?_
    | with_reducible refine rp_ifT ?_
    | with_reducible refine rp_slc ?_
    | with_reducible refine rp_p0 ?_
    | with_reducible refine rp_p1 ?_
    | with_reducible refine rp_tup ?_
    | with_reducible refine rp_lst ?_
    | with_reducible refine rp_isi ?_
    | with_reducible refine rp_isit ?_
    | with_reducible refine rp_mth ?_
    | with_reducible refine rp_cmp2 ?_
    | with_reducible refine rp_neg ?_
    | with_reducible refine rp_t0 ?_
    | with_reducible refine rp_t1 ?_
    | with_reducible refine rp_lc ?_
    | with_reducible refine rp_lcL ?_
    | with_reducible refine rp_lstL ?_
    | with_reducible refine rp_catL ?_
    | with_reducible refine rp_listL ?_
    | with_reducible refine rp_of ?_
    | with_reducible refine rp_r1 ?_
    | with_reducible refine rp_r2 ?_
    | with_reducible refine rp_enum ?_
    | with_reducible refine rp_zip ?_
    | with_reducible refine op_nil ?_
    | with_reducible refine op_norm (by simp only [List.set_cons_succ, List.set_cons_zero, List.map_cons, List.map_nil, List.cons_append, List.nil_append]; rfl) (op_cons ?_)
    | with_reducible refine op_cons ?_
    | with_reducible refine op_asg ?_
    | with_reducible refine op_ifT ?_
    | with_reducible refine rt_and ?_
    | with_reducible refine rt_or ?_
    | with_reducible refine rt_not ?_
    | with_reducible refine rt_of ?_
    | with_reducible refine op_ret ?_
    | with_reducible refine op_new ?_
    | with_reducible refine op_app (by with_unfolding_all rfl) (by first | exact st_get | exact st_get2) ?_
    | with_reducible refine op_aug (by with_unfolding_all rfl) (by decide) ?_
    | with_reducible refine op_for ?_
    | with_reducible refine op_par ?_
    | with_reducible refine op_tp ?_
    | with_reducible refine op_seti (by with_unfolding_all rfl) ?_
    | with_reducible refine op_expr ?_
    | with_reducible refine op_doc ?_
    | with_reducible refine op_pass ?_
    | with_reducible refine op_retN ?_
    | with_reducible refine fin0 ?_
    | with_reducible refine fin1 ?_
    | with_reducible refine fino1 ?_
    | with_reducible refine fin2 ?_
    | refine ⟨_, _, _, _, rfl, st_get, lt_sz (by first | omega | (simp only [List.length_map, List.length_append, List.length_cons, List.length_nil]; omega)), st_set, ?_⟩
    | refine ⟨_, rfl, rngOk_in (by omega) (by omega), ?_⟩
    | refine ⟨_, src_live, ?_⟩
    | refine ⟨_, bi_live rfl, ?_⟩
    | (refine ⟨_, rfl, fun h => ?_, fun h => ?_⟩ <;> try (first | exact absurd h (by decide) | exact (f_t h).elim | exact (t_f h).elim))
    | refine ⟨_, rfl, ?_⟩
    | refine ⟨_, if_pos (by first | assumption | omega), ?_⟩
    | refine ⟨_, _, rfl, le_sz rfl, ?_⟩
    | refine ⟨_, _, rfl, rfl, ?_⟩
    | refine ⟨_, _, rfl, if_pos (by first | assumption | omega), ?_⟩
    | refine ⟨_, rfl, rfl, ?_⟩
    | refine ⟨rfl, ?_⟩
    | exact rfl
    | dsimp only)
  refine rp_lcI (fun c => .str (strD (fstD c))) (by omega) (fun x hx acc => ?_) ?_
  · refine ⟨_, rfl, ?_⟩
    repeat' (first
    | with_reducible refine rp_var (by with_unfolding_all rfl) ?_
    | refine ⟨_, col_at0 (List.all_eq_true.mp hc x hx), ?_⟩
    | with_reducible refine rp_lit ?_
    | with_reducible refine rp_glb ?_
    | with_reducible refine rp_bin ?_
    | with_reducible refine rp_cmp ?_
    | with_reducible refine rp_cons ?_
    | with_reducible refine rp_nil ?_
    | with_reducible refine rp_idx ?_
    | with_reducible refine rp_call ?_
    | with_reducible refine rp_bi ?_
    | with_reducible refine rp_fz ?_
    | with_reducible refine rp_and ?_
    | with_reducible refine rp_or ?_
    | with_reducible refine rp_not ?_
    | with_reducible refine rp_ifT ?_
    | with_reducible refine rp_slc ?_
    | with_reducible refine rp_p0 ?_
    | with_reducible refine rp_p1 ?_
    | with_reducible refine rp_tup ?_
    | with_reducible refine rp_lst ?_
    | with_reducible refine rp_isi ?_
    | with_reducible refine rp_isit ?_
    | with_reducible refine rp_mth ?_
    | with_reducible refine rp_cmp2 ?_
    | with_reducible refine rp_neg ?_
    | with_reducible refine rp_t0 ?_
    | with_reducible refine rp_t1 ?_
    | with_reducible refine rp_lc ?_
    | with_reducible refine rp_lcL ?_
    | with_reducible refine rp_lstL ?_
    | with_reducible refine rp_catL ?_
    | with_reducible refine rp_listL ?_
    | with_reducible refine rp_of ?_
    | with_reducible refine rp_r1 ?_
    | with_reducible refine rp_r2 ?_
    | with_reducible refine rp_enum ?_
    | with_reducible refine rp_zip ?_
    | with_reducible refine op_nil ?_
    | with_reducible refine op_norm (by simp only [List.set_cons_succ, List.set_cons_zero, List.map_cons, List.map_nil, List.cons_append, List.nil_append]; rfl) (op_cons ?_)
    | with_reducible refine op_cons ?_
    | with_reducible refine op_asg ?_
    | with_reducible refine op_ifT ?_
    | with_reducible refine rt_and ?_
    | with_reducible refine rt_or ?_
    | with_reducible refine rt_not ?_
    | with_reducible refine rt_of ?_
    | with_reducible refine op_ret ?_
    | with_reducible refine op_new ?_
    | with_reducible refine op_app (by with_unfolding_all rfl) (by first | exact st_get | exact st_get2) ?_
    | with_reducible refine op_aug (by with_unfolding_all rfl) (by decide) ?_
    | with_reducible refine op_for ?_
    | with_reducible refine op_par ?_
    | with_reducible refine op_tp ?_
    | with_reducible refine op_seti (by with_unfolding_all rfl) ?_
    | with_reducible refine op_expr ?_
    | with_reducible refine op_doc ?_
    | with_reducible refine op_pass ?_
    | with_reducible refine op_retN ?_
    | with_reducible refine fin0 ?_
    | with_reducible refine fin1 ?_
    | with_reducible refine fino1 ?_
    | with_reducible refine fin2 ?_
    | refine ⟨_, _, _, _, rfl, st_get, lt_sz (by first | omega | (simp only [List.length_map, List.length_append, List.length_cons, List.length_nil]; omega)), st_set, ?_⟩
    | refine ⟨_, rfl, rngOk_in (by omega) (by omega), ?_⟩
    | refine ⟨_, src_live, ?_⟩
    | refine ⟨_, bi_live rfl, ?_⟩
    | (refine ⟨_, rfl, fun h => ?_, fun h => ?_⟩ <;> try (first | exact absurd h (by decide) | exact (f_t h).elim | exact (t_f h).elim))
    | refine ⟨_, rfl, ?_⟩
    | refine ⟨_, if_pos (by first | assumption | omega), ?_⟩
    | refine ⟨_, _, rfl, le_sz rfl, ?_⟩
    | refine ⟨_, _, rfl, rfl, ?_⟩
    | refine ⟨_, _, rfl, if_pos (by first | assumption | omega), ?_⟩
    | refine ⟨_, rfl, rfl, ?_⟩
    | refine ⟨rfl, ?_⟩
    | exact rfl
    | dsimp only)
  · repeat' (first
    | with_reducible refine rp_var (by with_unfolding_all rfl) ?_
    | with_reducible refine rp_lit ?_
    | with_reducible refine rp_glb ?_
    | with_reducible refine rp_bin ?_
    | with_reducible refine rp_cmp ?_
    | with_reducible refine rp_cons ?_
    | with_reducible refine rp_nil ?_
    | with_reducible refine rp_idx ?_
    | with_reducible refine rp_call ?_
    | with_reducible refine rp_bi ?_
    | with_reducible refine rp_fz ?_
    | with_reducible refine rp_and ?_
    | with_reducible refine rp_or ?_
    | with_reducible refine rp_not ?_
    | with_reducible refine rp_ifT ?_
    | with_reducible refine rp_slc ?_
    | with_reducible refine rp_p0 ?_
    | with_reducible refine rp_p1 ?_
    | with_reducible refine rp_tup ?_
    | with_reducible refine rp_lst ?_
    | with_reducible refine rp_isi ?_
    | with_reducible refine rp_isit ?_
    | with_reducible refine rp_mth ?_
    | with_reducible refine rp_cmp2 ?_
    | with_reducible refine rp_neg ?_
    | with_reducible refine rp_t0 ?_
    | with_reducible refine rp_t1 ?_
    | with_reducible refine rp_lc ?_
    | with_reducible refine rp_lcL ?_
    | with_reducible refine rp_lstL ?_
    | with_reducible refine rp_catL ?_
    | with_reducible refine rp_listL ?_
    | with_reducible refine rp_of ?_
    | with_reducible refine rp_r1 ?_
    | with_reducible refine rp_r2 ?_
    | with_reducible refine rp_enum ?_
    | with_reducible refine rp_zip ?_
    | with_reducible refine op_nil ?_
    | with_reducible refine op_norm (by simp only [List.set_cons_succ, List.set_cons_zero, List.map_cons, List.map_nil, List.cons_append, List.nil_append]; rfl) (op_cons ?_)
    | with_reducible refine op_cons ?_
    | with_reducible refine op_asg ?_
    | with_reducible refine op_ifT ?_
    | with_reducible refine rt_and ?_
    | with_reducible refine rt_or ?_
    | with_reducible refine rt_not ?_
    | with_reducible refine rt_of ?_
    | with_reducible refine op_ret ?_
    | with_reducible refine op_new ?_
    | with_reducible refine op_app (by with_unfolding_all rfl) (by first | exact st_get | exact st_get2) ?_
    | with_reducible refine op_aug (by with_unfolding_all rfl) (by decide) ?_
    | with_reducible refine op_for ?_
    | with_reducible refine op_par ?_
    | with_reducible refine op_tp ?_
    | with_reducible refine op_seti (by with_unfolding_all rfl) ?_
    | with_reducible refine op_expr ?_
    | with_reducible refine op_doc ?_
    | with_reducible refine op_pass ?_
    | with_reducible refine op_retN ?_
    | with_reducible refine fin0 ?_
    | with_reducible refine fin1 ?_
    | with_reducible refine fino1 ?_
    | with_reducible refine fin2 ?_
    | refine ⟨_, _, _, _, rfl, st_get, lt_sz (by first | omega | (simp only [List.length_map, List.length_append, List.length_cons, List.length_nil]; omega)), st_set, ?_⟩
    | refine ⟨_, rfl, rngOk_in (by omega) (by omega), ?_⟩
    | refine ⟨_, src_live, ?_⟩
    | refine ⟨_, bi_live rfl, ?_⟩
    | (refine ⟨_, rfl, fun h => ?_, fun h => ?_⟩ <;> try (first | exact absurd h (by decide) | exact (f_t h).elim | exact (t_f h).elim))
    | refine ⟨_, rfl, ?_⟩
    | refine ⟨_, if_pos (by first | assumption | omega), ?_⟩
    | refine ⟨_, _, rfl, le_sz rfl, ?_⟩
    | refine ⟨_, _, rfl, rfl, ?_⟩
    | refine ⟨_, _, rfl, if_pos (by first | assumption | omega), ?_⟩
    | refine ⟨_, rfl, rfl, ?_⟩
    | refine ⟨rfl, ?_⟩
    | exact rfl
    | dsimp only)
    simp only [namesOf, List.map_map]
    rfl
theorem tabB_len {xs : List D} (h : ¬ (xs.length : Int) = 3) : tabB (.tup xs) = false := by
  cases xs with
  | nil => rfl
  | cons a xs => cases xs with
    | nil => rfl
    | cons b xs => cases xs with
      | nil => rfl
      | cons c xs => cases xs with
        | nil => exact absurd rfl h
        | cons d xs => cases c <;> rfl
theorem cut_to (xs : List D) {a : Int} (h0 : 0 ≤ a) : cutD xs none (some a) = xs.take a.toNat := cutL_to xs h0
theorem names_nc {cs : List D} (hc : cs.all colB = true) (hl : cs.length ≤ 1000) : Nc 1000 (.tup ((namesOf cs).map .str)) := by
  refine .tup (fun x hx => ?_) (by simpa [namesOf] using hl)
  obtain ⟨w, hw, rfl⟩ := List.mem_map.mp hx
  obtain ⟨c, hc', rfl⟩ := List.mem_map.mp hw
  have := nameS_ok (col_name (List.all_eq_true.mp hc c hc'))
  exact .str this.1 (by omega)
theorem names_are {cs : List D} (hc : cs.all colB = true) (hl : 1 ≤ cs.length) : areB (.tup ((namesOf cs).map .str)) = decide (namesOf cs).Nodup := by
  have h1 : (((namesOf cs).map D.str).all nameB) = true := by
    rw [List.all_eq_true]
    intro x hx
    obtain ⟨w, hw, rfl⟩ := List.mem_map.mp hx
    obtain ⟨c, hc', rfl⟩ := List.mem_map.mp hw
    exact col_name (List.all_eq_true.mp hc c hc')
  have h2 : ((namesOf cs).map D.str).isEmpty = false := by
    cases cs with
    | nil => simp at hl
    | cons => rfl
  have h3 : ((namesOf cs).map D.str).map strD = namesOf cs := by rw [List.map_map]; exact List.map_id _
  simp only [areB, h1, h2, h3, Bool.not_false, Bool.true_and]
theorem is_table_ok {T : List Fn} {i iW iF iN iA iO iC b : Nat} (hT : T[i]? = some (f_is_table iN iA iO iC iF)) (hW : T[iW]? = some f_is_whole) (hF : T[iF]? = some (f_is_from iW)) (hN : T[iN]? = some f_is_name) (hA : T[iA]? = some (f_are_names iN)) (hO : T[iO]? = some f_names_of) (hC : T[iC]? = some (f_is_column iF iN)) (n : Nat) {d : D} (hd : Nc b d) (hb : b ≤ 1000) (S : St') : RP (FT T (n + 4) i [.t d] S) (Is S (.bl (tabB d))) noE := by
  refine rp_fn hT rfl rfl ?_
  simp only [f_is_table, pad]
  cases hd with
  | @tup xs hx hl =>
    by_cases h3 : (xs.length : Int) = 3
    · obtain ⟨x, y, z, rfl⟩ := three h3
      have q0 := at0 x [y, z]
      have q1 := at1 x y [z]
      have q2 := at2 x y z []
      have hz := hx z (by simp)
      repeat' (first
    | with_reducible refine rp_var (by with_unfolding_all rfl) ?_
    | refine ⟨_, q0, ?_⟩
    | refine ⟨_, q1, ?_⟩
    | refine ⟨_, q2, ?_⟩
    | with_reducible refine rp_lit ?_
    | with_reducible refine rp_glb ?_
    | with_reducible refine rp_bin ?_
    | with_reducible refine rp_cmp ?_
    | with_reducible refine rp_cons ?_
    | with_reducible refine rp_nil ?_
    | with_reducible refine rp_idx ?_
    | with_reducible refine rp_call ?_
    | with_reducible refine rp_bi ?_
    | with_reducible refine rp_fz ?_
    | with_reducible refine rp_and ?_
    | with_reducible refine rp_or ?_
    | with_reducible refine rp_not ?_
    | with_reducible refine rp_ifT ?_
    | with_reducible refine rp_slc ?_
    | with_reducible refine rp_p0 ?_
    | with_reducible refine rp_p1 ?_
    | with_reducible refine rp_tup ?_
    | with_reducible refine rp_lst ?_
    | with_reducible refine rp_isi ?_
    | with_reducible refine rp_isit ?_
    | with_reducible refine rp_mth ?_
    | with_reducible refine rp_cmp2 ?_
    | with_reducible refine rp_neg ?_
    | with_reducible refine rp_t0 ?_
    | with_reducible refine rp_t1 ?_
    | with_reducible refine rp_lc ?_
    | with_reducible refine rp_lcL ?_
    | with_reducible refine rp_lstL ?_
    | with_reducible refine rp_catL ?_
    | with_reducible refine rp_listL ?_
    | with_reducible refine rp_of ?_
    | with_reducible refine rp_r1 ?_
    | with_reducible refine rp_r2 ?_
    | with_reducible refine rp_enum ?_
    | with_reducible refine rp_zip ?_
    | with_reducible refine op_nil ?_
    | with_reducible refine op_norm (by simp only [List.set_cons_succ, List.set_cons_zero, List.map_cons, List.map_nil, List.cons_append, List.nil_append]; rfl) (op_cons ?_)
    | with_reducible refine op_cons ?_
    | with_reducible refine op_asg ?_
    | with_reducible refine op_ifT ?_
    | with_reducible refine rt_and ?_
    | with_reducible refine rt_or ?_
    | with_reducible refine rt_not ?_
    | with_reducible refine rt_of ?_
    | with_reducible refine op_ret ?_
    | with_reducible refine op_new ?_
    | with_reducible refine op_app (by with_unfolding_all rfl) (by first | exact st_get | exact st_get2) ?_
    | with_reducible refine op_aug (by with_unfolding_all rfl) (by decide) ?_
    | with_reducible refine op_for ?_
    | with_reducible refine op_par ?_
    | with_reducible refine op_tp ?_
    | with_reducible refine op_seti (by with_unfolding_all rfl) ?_
    | with_reducible refine op_expr ?_
    | with_reducible refine op_doc ?_
    | with_reducible refine op_pass ?_
    | with_reducible refine op_retN ?_
    | with_reducible refine fin0 ?_
    | with_reducible refine fin1 ?_
    | with_reducible refine fino1 ?_
    | with_reducible refine fin2 ?_
    | refine ⟨_, _, _, _, rfl, st_get, lt_sz (by first | omega | (simp only [List.length_map, List.length_append, List.length_cons, List.length_nil]; omega)), st_set, ?_⟩
    | refine ⟨_, rfl, rngOk_in (by omega) (by omega), ?_⟩
    | refine ⟨_, src_live, ?_⟩
    | refine ⟨_, bi_live rfl, ?_⟩
    | (refine ⟨_, rfl, fun h => ?_, fun h => ?_⟩ <;> try (first | exact absurd h (by decide) | exact (f_t h).elim | exact (t_f h).elim))
    | refine ⟨_, rfl, ?_⟩
    | refine ⟨_, if_pos (by first | assumption | omega), ?_⟩
    | refine ⟨_, _, rfl, le_sz rfl, ?_⟩
    | refine ⟨_, _, rfl, rfl, ?_⟩
    | refine ⟨_, _, rfl, if_pos (by first | assumption | omega), ?_⟩
    | refine ⟨_, rfl, rfl, ?_⟩
    | refine ⟨rfl, ?_⟩
    | exact rfl
    | dsimp only)
      refine RP.of_no (is_name_ok hN (n + 2) (hx x (by simp)) hb S) fun v S1 ⟨e1, e2⟩ => ?_
      subst e1; subst e2
      cases hz with
      | @tup cs hcx hcl =>
        repeat' (first
    | with_reducible refine rp_var (by with_unfolding_all rfl) ?_
    | refine ⟨_, q0, ?_⟩
    | refine ⟨_, q1, ?_⟩
    | refine ⟨_, q2, ?_⟩
    | with_reducible refine rp_lit ?_
    | with_reducible refine rp_glb ?_
    | with_reducible refine rp_bin ?_
    | with_reducible refine rp_cmp ?_
    | with_reducible refine rp_cons ?_
    | with_reducible refine rp_nil ?_
    | with_reducible refine rp_idx ?_
    | with_reducible refine rp_call ?_
    | with_reducible refine rp_bi ?_
    | with_reducible refine rp_fz ?_
    | with_reducible refine rp_and ?_
    | with_reducible refine rp_or ?_
    | with_reducible refine rp_not ?_
    | with_reducible refine rp_ifT ?_
    | with_reducible refine rp_slc ?_
    | with_reducible refine rp_p0 ?_
    | with_reducible refine rp_p1 ?_
    | with_reducible refine rp_tup ?_
    | with_reducible refine rp_lst ?_
    | with_reducible refine rp_isi ?_
    | with_reducible refine rp_isit ?_
    | with_reducible refine rp_mth ?_
    | with_reducible refine rp_cmp2 ?_
    | with_reducible refine rp_neg ?_
    | with_reducible refine rp_t0 ?_
    | with_reducible refine rp_t1 ?_
    | with_reducible refine rp_lc ?_
    | with_reducible refine rp_lcL ?_
    | with_reducible refine rp_lstL ?_
    | with_reducible refine rp_catL ?_
    | with_reducible refine rp_listL ?_
    | with_reducible refine rp_of ?_
    | with_reducible refine rp_r1 ?_
    | with_reducible refine rp_r2 ?_
    | with_reducible refine rp_enum ?_
    | with_reducible refine rp_zip ?_
    | with_reducible refine op_nil ?_
    | with_reducible refine op_norm (by simp only [List.set_cons_succ, List.set_cons_zero, List.map_cons, List.map_nil, List.cons_append, List.nil_append]; rfl) (op_cons ?_)
    | with_reducible refine op_cons ?_
    | with_reducible refine op_asg ?_
    | with_reducible refine op_ifT ?_
    | with_reducible refine rt_and ?_
    | with_reducible refine rt_or ?_
    | with_reducible refine rt_not ?_
    | with_reducible refine rt_of ?_
    | with_reducible refine op_ret ?_
    | with_reducible refine op_new ?_
    | with_reducible refine op_app (by with_unfolding_all rfl) (by first | exact st_get | exact st_get2) ?_
    | with_reducible refine op_aug (by with_unfolding_all rfl) (by decide) ?_
    | with_reducible refine op_for ?_
    | with_reducible refine op_par ?_
    | with_reducible refine op_tp ?_
    | with_reducible refine op_seti (by with_unfolding_all rfl) ?_
    | with_reducible refine op_expr ?_
    | with_reducible refine op_doc ?_
    | with_reducible refine op_pass ?_
    | with_reducible refine op_retN ?_
    | with_reducible refine fin0 ?_
    | with_reducible refine fin1 ?_
    | with_reducible refine fino1 ?_
    | with_reducible refine fin2 ?_
    | refine ⟨_, _, _, _, rfl, st_get, lt_sz (by first | omega | (simp only [List.length_map, List.length_append, List.length_cons, List.length_nil]; omega)), st_set, ?_⟩
    | refine ⟨_, rfl, rngOk_in (by omega) (by omega), ?_⟩
    | refine ⟨_, src_live, ?_⟩
    | refine ⟨_, bi_live rfl, ?_⟩
    | (refine ⟨_, rfl, fun h => ?_, fun h => ?_⟩ <;> try (first | exact absurd h (by decide) | exact (f_t h).elim | exact (t_f h).elim))
    | refine ⟨_, rfl, ?_⟩
    | refine ⟨_, if_pos (by first | assumption | omega), ?_⟩
    | refine ⟨_, _, rfl, le_sz rfl, ?_⟩
    | refine ⟨_, _, rfl, rfl, ?_⟩
    | refine ⟨_, _, rfl, if_pos (by first | assumption | omega), ?_⟩
    | refine ⟨_, rfl, rfl, ?_⟩
    | refine ⟨rfl, ?_⟩
    | exact rfl
    | dsimp only)
        · rename_i hn h0 h1
          have h1 : 1 ≤ cs.length := by have := of_decide_eq_true h1; omega
          have h4 : cs.length ≤ 4 := by have := of_decide_eq_true h; omega
          refine rp_lcI (fun x => .bl (colB x)) (by omega) (fun x hxx acc => ?_) ?_
          · refine ⟨_, rfl, ?_⟩
            repeat' (first
    | with_reducible refine rp_var (by with_unfolding_all rfl) ?_
    | with_reducible refine rp_lit ?_
    | with_reducible refine rp_glb ?_
    | with_reducible refine rp_bin ?_
    | with_reducible refine rp_cmp ?_
    | with_reducible refine rp_cons ?_
    | with_reducible refine rp_nil ?_
    | with_reducible refine rp_idx ?_
    | with_reducible refine rp_call ?_
    | with_reducible refine rp_bi ?_
    | with_reducible refine rp_fz ?_
    | with_reducible refine rp_and ?_
    | with_reducible refine rp_or ?_
    | with_reducible refine rp_not ?_
    | with_reducible refine rp_ifT ?_
    | with_reducible refine rp_slc ?_
    | with_reducible refine rp_p0 ?_
    | with_reducible refine rp_p1 ?_
    | with_reducible refine rp_tup ?_
    | with_reducible refine rp_lst ?_
    | with_reducible refine rp_isi ?_
    | with_reducible refine rp_isit ?_
    | with_reducible refine rp_mth ?_
    | with_reducible refine rp_cmp2 ?_
    | with_reducible refine rp_neg ?_
    | with_reducible refine rp_t0 ?_
    | with_reducible refine rp_t1 ?_
    | with_reducible refine rp_lc ?_
    | with_reducible refine rp_lcL ?_
    | with_reducible refine rp_lstL ?_
    | with_reducible refine rp_catL ?_
    | with_reducible refine rp_listL ?_
    | with_reducible refine rp_of ?_
    | with_reducible refine rp_r1 ?_
    | with_reducible refine rp_r2 ?_
    | with_reducible refine rp_enum ?_
    | with_reducible refine rp_zip ?_
    | with_reducible refine op_nil ?_
    | with_reducible refine op_norm (by simp only [List.set_cons_succ, List.set_cons_zero, List.map_cons, List.map_nil, List.cons_append, List.nil_append]; rfl) (op_cons ?_)
    | with_reducible refine op_cons ?_
    | with_reducible refine op_asg ?_
    | with_reducible refine op_ifT ?_
    | with_reducible refine rt_and ?_
    | with_reducible refine rt_or ?_
    | with_reducible refine rt_not ?_
    | with_reducible refine rt_of ?_
    | with_reducible refine op_ret ?_
    | with_reducible refine op_new ?_
    | with_reducible refine op_app (by with_unfolding_all rfl) (by first | exact st_get | exact st_get2) ?_
    | with_reducible refine op_aug (by with_unfolding_all rfl) (by decide) ?_
    | with_reducible refine op_for ?_
    | with_reducible refine op_par ?_
    | with_reducible refine op_tp ?_
    | with_reducible refine op_seti (by with_unfolding_all rfl) ?_
    | with_reducible refine op_expr ?_
    | with_reducible refine op_doc ?_
    | with_reducible refine op_pass ?_
    | with_reducible refine op_retN ?_
    | with_reducible refine fin0 ?_
    | with_reducible refine fin1 ?_
    | with_reducible refine fino1 ?_
    | with_reducible refine fin2 ?_
    | refine ⟨_, _, _, _, rfl, st_get, lt_sz (by first | omega | (simp only [List.length_map, List.length_append, List.length_cons, List.length_nil]; omega)), st_set, ?_⟩
    | refine ⟨_, rfl, rngOk_in (by omega) (by omega), ?_⟩
    | refine ⟨_, src_live, ?_⟩
    | refine ⟨_, bi_live rfl, ?_⟩
    | (refine ⟨_, rfl, fun h => ?_, fun h => ?_⟩ <;> try (first | exact absurd h (by decide) | exact (f_t h).elim | exact (t_f h).elim))
    | refine ⟨_, rfl, ?_⟩
    | refine ⟨_, if_pos (by first | assumption | omega), ?_⟩
    | refine ⟨_, _, rfl, le_sz rfl, ?_⟩
    | refine ⟨_, _, rfl, rfl, ?_⟩
    | refine ⟨_, _, rfl, if_pos (by first | assumption | omega), ?_⟩
    | refine ⟨_, rfl, rfl, ?_⟩
    | refine ⟨rfl, ?_⟩
    | exact rfl
    | dsimp only)
            exact RP.of_no (is_column_ok hC hW hF hN n (hcx x hxx) hb _) fun v S1 ⟨e1, e2⟩ => ⟨e2, e1⟩
          · repeat' (first
    | with_reducible refine rp_var (by with_unfolding_all rfl) ?_
    | refine ⟨_, all_bls colB cs, ?_⟩
    | with_reducible refine rp_lit ?_
    | with_reducible refine rp_glb ?_
    | with_reducible refine rp_bin ?_
    | with_reducible refine rp_cmp ?_
    | with_reducible refine rp_cons ?_
    | with_reducible refine rp_nil ?_
    | with_reducible refine rp_idx ?_
    | with_reducible refine rp_call ?_
    | with_reducible refine rp_bi ?_
    | with_reducible refine rp_fz ?_
    | with_reducible refine rp_and ?_
    | with_reducible refine rp_or ?_
    | with_reducible refine rp_not ?_
    | with_reducible refine rp_ifT ?_
    | with_reducible refine rp_slc ?_
    | with_reducible refine rp_p0 ?_
    | with_reducible refine rp_p1 ?_
    | with_reducible refine rp_tup ?_
    | with_reducible refine rp_lst ?_
    | with_reducible refine rp_isi ?_
    | with_reducible refine rp_isit ?_
    | with_reducible refine rp_mth ?_
    | with_reducible refine rp_cmp2 ?_
    | with_reducible refine rp_neg ?_
    | with_reducible refine rp_t0 ?_
    | with_reducible refine rp_t1 ?_
    | with_reducible refine rp_lc ?_
    | with_reducible refine rp_lcL ?_
    | with_reducible refine rp_lstL ?_
    | with_reducible refine rp_catL ?_
    | with_reducible refine rp_listL ?_
    | with_reducible refine rp_of ?_
    | with_reducible refine rp_r1 ?_
    | with_reducible refine rp_r2 ?_
    | with_reducible refine rp_enum ?_
    | with_reducible refine rp_zip ?_
    | with_reducible refine op_nil ?_
    | with_reducible refine op_norm (by simp only [List.set_cons_succ, List.set_cons_zero, List.map_cons, List.map_nil, List.cons_append, List.nil_append]; rfl) (op_cons ?_)
    | with_reducible refine op_cons ?_
    | with_reducible refine op_asg ?_
    | with_reducible refine op_ifT ?_
    | with_reducible refine rt_and ?_
    | with_reducible refine rt_or ?_
    | with_reducible refine rt_not ?_
    | with_reducible refine rt_of ?_
    | with_reducible refine op_ret ?_
    | with_reducible refine op_new ?_
    | with_reducible refine op_app (by with_unfolding_all rfl) (by first | exact st_get | exact st_get2) ?_
    | with_reducible refine op_aug (by with_unfolding_all rfl) (by decide) ?_
    | with_reducible refine op_for ?_
    | with_reducible refine op_par ?_
    | with_reducible refine op_tp ?_
    | with_reducible refine op_seti (by with_unfolding_all rfl) ?_
    | with_reducible refine op_expr ?_
    | with_reducible refine op_doc ?_
    | with_reducible refine op_pass ?_
    | with_reducible refine op_retN ?_
    | with_reducible refine fin0 ?_
    | with_reducible refine fin1 ?_
    | with_reducible refine fino1 ?_
    | with_reducible refine fin2 ?_
    | refine ⟨_, _, _, _, rfl, st_get, lt_sz (by first | omega | (simp only [List.length_map, List.length_append, List.length_cons, List.length_nil]; omega)), st_set, ?_⟩
    | refine ⟨_, rfl, rngOk_in (by omega) (by omega), ?_⟩
    | refine ⟨_, src_live, ?_⟩
    | refine ⟨_, bi_live rfl, ?_⟩
    | (refine ⟨_, rfl, fun h => ?_, fun h => ?_⟩ <;> try (first | exact absurd h (by decide) | exact (f_t h).elim | exact (t_f h).elim))
    | refine ⟨_, rfl, ?_⟩
    | refine ⟨_, if_pos (by first | assumption | omega), ?_⟩
    | refine ⟨_, _, rfl, le_sz rfl, ?_⟩
    | refine ⟨_, _, rfl, rfl, ?_⟩
    | refine ⟨_, _, rfl, if_pos (by first | assumption | omega), ?_⟩
    | refine ⟨_, rfl, rfl, ?_⟩
    | refine ⟨rfl, ?_⟩
    | exact rfl
    | dsimp only)
            · have hall := h
              refine RP.of_no (names_of_ok hO (n + 2) hall (by omega) _) fun v S1 ⟨e1, e2⟩ => ?_
              subst e1; subst e2
              repeat' (first
    | with_reducible refine rp_var (by with_unfolding_all rfl) ?_
    | with_reducible refine rp_lit ?_
    | with_reducible refine rp_glb ?_
    | with_reducible refine rp_bin ?_
    | with_reducible refine rp_cmp ?_
    | with_reducible refine rp_cons ?_
    | with_reducible refine rp_nil ?_
    | with_reducible refine rp_idx ?_
    | with_reducible refine rp_call ?_
    | with_reducible refine rp_bi ?_
    | with_reducible refine rp_fz ?_
    | with_reducible refine rp_and ?_
    | with_reducible refine rp_or ?_
    | with_reducible refine rp_not ?_
    | with_reducible refine rp_ifT ?_
    | with_reducible refine rp_slc ?_
    | with_reducible refine rp_p0 ?_
    | with_reducible refine rp_p1 ?_
    | with_reducible refine rp_tup ?_
    | with_reducible refine rp_lst ?_
    | with_reducible refine rp_isi ?_
    | with_reducible refine rp_isit ?_
    | with_reducible refine rp_mth ?_
    | with_reducible refine rp_cmp2 ?_
    | with_reducible refine rp_neg ?_
    | with_reducible refine rp_t0 ?_
    | with_reducible refine rp_t1 ?_
    | with_reducible refine rp_lc ?_
    | with_reducible refine rp_lcL ?_
    | with_reducible refine rp_lstL ?_
    | with_reducible refine rp_catL ?_
    | with_reducible refine rp_listL ?_
    | with_reducible refine rp_of ?_
    | with_reducible refine rp_r1 ?_
    | with_reducible refine rp_r2 ?_
    | with_reducible refine rp_enum ?_
    | with_reducible refine rp_zip ?_
    | with_reducible refine op_nil ?_
    | with_reducible refine op_norm (by simp only [List.set_cons_succ, List.set_cons_zero, List.map_cons, List.map_nil, List.cons_append, List.nil_append]; rfl) (op_cons ?_)
    | with_reducible refine op_cons ?_
    | with_reducible refine op_asg ?_
    | with_reducible refine op_ifT ?_
    | with_reducible refine rt_and ?_
    | with_reducible refine rt_or ?_
    | with_reducible refine rt_not ?_
    | with_reducible refine rt_of ?_
    | with_reducible refine op_ret ?_
    | with_reducible refine op_new ?_
    | with_reducible refine op_app (by with_unfolding_all rfl) (by first | exact st_get | exact st_get2) ?_
    | with_reducible refine op_aug (by with_unfolding_all rfl) (by decide) ?_
    | with_reducible refine op_for ?_
    | with_reducible refine op_par ?_
    | with_reducible refine op_tp ?_
    | with_reducible refine op_seti (by with_unfolding_all rfl) ?_
    | with_reducible refine op_expr ?_
    | with_reducible refine op_doc ?_
    | with_reducible refine op_pass ?_
    | with_reducible refine op_retN ?_
    | with_reducible refine fin0 ?_
    | with_reducible refine fin1 ?_
    | with_reducible refine fino1 ?_
    | with_reducible refine fin2 ?_
    | refine ⟨_, _, _, _, rfl, st_get, lt_sz (by first | omega | (simp only [List.length_map, List.length_append, List.length_cons, List.length_nil]; omega)), st_set, ?_⟩
    | refine ⟨_, rfl, rngOk_in (by omega) (by omega), ?_⟩
    | refine ⟨_, src_live, ?_⟩
    | refine ⟨_, bi_live rfl, ?_⟩
    | (refine ⟨_, rfl, fun h => ?_, fun h => ?_⟩ <;> try (first | exact absurd h (by decide) | exact (f_t h).elim | exact (t_f h).elim))
    | refine ⟨_, rfl, ?_⟩
    | refine ⟨_, if_pos (by first | assumption | omega), ?_⟩
    | refine ⟨_, _, rfl, le_sz rfl, ?_⟩
    | refine ⟨_, _, rfl, rfl, ?_⟩
    | refine ⟨_, _, rfl, if_pos (by first | assumption | omega), ?_⟩
    | refine ⟨_, rfl, rfl, ?_⟩
    | refine ⟨rfl, ?_⟩
    | exact rfl
    | dsimp only)
              refine RP.of_no (are_names_ok hA hN (n + 1) (names_nc hall (by omega)) (by omega) _) fun v S1 ⟨e1, e2⟩ => ?_
              subst e1; subst e2
              rw [names_are hall h1]
              repeat' (first
    | with_reducible refine rp_var (by with_unfolding_all rfl) ?_
    | refine ⟨_, q0, ?_⟩
    | refine ⟨_, q1, ?_⟩
    | refine ⟨_, q2, ?_⟩
    | with_reducible refine rp_lit ?_
    | with_reducible refine rp_glb ?_
    | with_reducible refine rp_bin ?_
    | with_reducible refine rp_cmp ?_
    | with_reducible refine rp_cons ?_
    | with_reducible refine rp_nil ?_
    | with_reducible refine rp_idx ?_
    | with_reducible refine rp_call ?_
    | with_reducible refine rp_bi ?_
    | with_reducible refine rp_fz ?_
    | with_reducible refine rp_and ?_
    | with_reducible refine rp_or ?_
    | with_reducible refine rp_not ?_
    | with_reducible refine rp_ifT ?_
    | with_reducible refine rp_slc ?_
    | with_reducible refine rp_p0 ?_
    | with_reducible refine rp_p1 ?_
    | with_reducible refine rp_tup ?_
    | with_reducible refine rp_lst ?_
    | with_reducible refine rp_isi ?_
    | with_reducible refine rp_isit ?_
    | with_reducible refine rp_mth ?_
    | with_reducible refine rp_cmp2 ?_
    | with_reducible refine rp_neg ?_
    | with_reducible refine rp_t0 ?_
    | with_reducible refine rp_t1 ?_
    | with_reducible refine rp_lc ?_
    | with_reducible refine rp_lcL ?_
    | with_reducible refine rp_lstL ?_
    | with_reducible refine rp_catL ?_
    | with_reducible refine rp_listL ?_
    | with_reducible refine rp_of ?_
    | with_reducible refine rp_r1 ?_
    | with_reducible refine rp_r2 ?_
    | with_reducible refine rp_enum ?_
    | with_reducible refine rp_zip ?_
    | with_reducible refine op_nil ?_
    | with_reducible refine op_norm (by simp only [List.set_cons_succ, List.set_cons_zero, List.map_cons, List.map_nil, List.cons_append, List.nil_append]; rfl) (op_cons ?_)
    | with_reducible refine op_cons ?_
    | with_reducible refine op_asg ?_
    | with_reducible refine op_ifT ?_
    | with_reducible refine rt_and ?_
    | with_reducible refine rt_or ?_
    | with_reducible refine rt_not ?_
    | with_reducible refine rt_of ?_
    | with_reducible refine op_ret ?_
    | with_reducible refine op_new ?_
    | with_reducible refine op_app (by with_unfolding_all rfl) (by first | exact st_get | exact st_get2) ?_
    | with_reducible refine op_aug (by with_unfolding_all rfl) (by decide) ?_
    | with_reducible refine op_for ?_
    | with_reducible refine op_par ?_
    | with_reducible refine op_tp ?_
    | with_reducible refine op_seti (by with_unfolding_all rfl) ?_
    | with_reducible refine op_expr ?_
    | with_reducible refine op_doc ?_
    | with_reducible refine op_pass ?_
    | with_reducible refine op_retN ?_
    | with_reducible refine fin0 ?_
    | with_reducible refine fin1 ?_
    | with_reducible refine fino1 ?_
    | with_reducible refine fin2 ?_
    | refine ⟨_, _, _, _, rfl, st_get, lt_sz (by first | omega | (simp only [List.length_map, List.length_append, List.length_cons, List.length_nil]; omega)), st_set, ?_⟩
    | refine ⟨_, rfl, rngOk_in (by omega) (by omega), ?_⟩
    | refine ⟨_, src_live, ?_⟩
    | refine ⟨_, bi_live rfl, ?_⟩
    | (refine ⟨_, rfl, fun h => ?_, fun h => ?_⟩ <;> try (first | exact absurd h (by decide) | exact (f_t h).elim | exact (t_f h).elim))
    | refine ⟨_, rfl, ?_⟩
    | refine ⟨_, if_pos (by first | assumption | omega), ?_⟩
    | refine ⟨_, _, rfl, le_sz rfl, ?_⟩
    | refine ⟨_, _, rfl, rfl, ?_⟩
    | refine ⟨_, _, rfl, if_pos (by first | assumption | omega), ?_⟩
    | refine ⟨_, rfl, rfl, ?_⟩
    | refine ⟨rfl, ?_⟩
    | exact rfl
    | dsimp only)
              · rename_i hnd
                refine RP.of_no (is_from_ok hF hW (n + 1) y 0 _ _) fun v S1 ⟨e1, e2⟩ => ?_
                subst e1; subst e2
                cases y with
                | int k =>
                  repeat' (first
    | with_reducible refine rp_var (by with_unfolding_all rfl) ?_
    | refine ⟨_, q0, ?_⟩
    | refine ⟨_, q1, ?_⟩
    | refine ⟨_, q2, ?_⟩
    | with_reducible refine rp_lit ?_
    | with_reducible refine rp_glb ?_
    | with_reducible refine rp_bin ?_
    | with_reducible refine rp_cmp ?_
    | with_reducible refine rp_cons ?_
    | with_reducible refine rp_nil ?_
    | with_reducible refine rp_idx ?_
    | with_reducible refine rp_call ?_
    | with_reducible refine rp_bi ?_
    | with_reducible refine rp_fz ?_
    | with_reducible refine rp_and ?_
    | with_reducible refine rp_or ?_
    | with_reducible refine rp_not ?_
    | with_reducible refine rp_ifT ?_
    | with_reducible refine rp_slc ?_
    | with_reducible refine rp_p0 ?_
    | with_reducible refine rp_p1 ?_
    | with_reducible refine rp_tup ?_
    | with_reducible refine rp_lst ?_
    | with_reducible refine rp_isi ?_
    | with_reducible refine rp_isit ?_
    | with_reducible refine rp_mth ?_
    | with_reducible refine rp_cmp2 ?_
    | with_reducible refine rp_neg ?_
    | with_reducible refine rp_t0 ?_
    | with_reducible refine rp_t1 ?_
    | with_reducible refine rp_lc ?_
    | with_reducible refine rp_lcL ?_
    | with_reducible refine rp_lstL ?_
    | with_reducible refine rp_catL ?_
    | with_reducible refine rp_listL ?_
    | with_reducible refine rp_of ?_
    | with_reducible refine rp_r1 ?_
    | with_reducible refine rp_r2 ?_
    | with_reducible refine rp_enum ?_
    | with_reducible refine rp_zip ?_
    | with_reducible refine op_nil ?_
    | with_reducible refine op_norm (by simp only [List.set_cons_succ, List.set_cons_zero, List.map_cons, List.map_nil, List.cons_append, List.nil_append]; rfl) (op_cons ?_)
    | with_reducible refine op_cons ?_
    | with_reducible refine op_asg ?_
    | with_reducible refine op_ifT ?_
    | with_reducible refine rt_and ?_
    | with_reducible refine rt_or ?_
    | with_reducible refine rt_not ?_
    | with_reducible refine rt_of ?_
    | with_reducible refine op_ret ?_
    | with_reducible refine op_new ?_
    | with_reducible refine op_app (by with_unfolding_all rfl) (by first | exact st_get | exact st_get2) ?_
    | with_reducible refine op_aug (by with_unfolding_all rfl) (by decide) ?_
    | with_reducible refine op_for ?_
    | with_reducible refine op_par ?_
    | with_reducible refine op_tp ?_
    | with_reducible refine op_seti (by with_unfolding_all rfl) ?_
    | with_reducible refine op_expr ?_
    | with_reducible refine op_doc ?_
    | with_reducible refine op_pass ?_
    | with_reducible refine op_retN ?_
    | with_reducible refine fin0 ?_
    | with_reducible refine fin1 ?_
    | with_reducible refine fino1 ?_
    | with_reducible refine fin2 ?_
    | refine ⟨_, _, _, _, rfl, st_get, lt_sz (by first | omega | (simp only [List.length_map, List.length_append, List.length_cons, List.length_nil]; omega)), st_set, ?_⟩
    | refine ⟨_, rfl, rngOk_in (by omega) (by omega), ?_⟩
    | refine ⟨_, src_live, ?_⟩
    | refine ⟨_, bi_live rfl, ?_⟩
    | (refine ⟨_, rfl, fun h => ?_, fun h => ?_⟩ <;> try (first | exact absurd h (by decide) | exact (f_t h).elim | exact (t_f h).elim))
    | refine ⟨_, rfl, ?_⟩
    | refine ⟨_, if_pos (by first | assumption | omega), ?_⟩
    | refine ⟨_, _, rfl, le_sz rfl, ?_⟩
    | refine ⟨_, _, rfl, rfl, ?_⟩
    | refine ⟨_, _, rfl, if_pos (by first | assumption | omega), ?_⟩
    | refine ⟨_, rfl, rfl, ?_⟩
    | refine ⟨rfl, ?_⟩
    | exact rfl
    | dsimp only)
                  · have hk := h
                    have hk' : 0 ≤ k := by
                      simp only [fromB, Bool.and_eq_true, decide_eq_true_eq] at hk
                      exact hk.1
                    have ec := cut_to cs hk'
                    rw [ec]
                    refine rp_lcI (fun x => .bl (trdB x)) (by rw [List.length_take]; omega) (fun x hxx acc => ?_) ?_
                    · refine ⟨_, rfl, ?_⟩
                      repeat' (first
    | with_reducible refine rp_var (by with_unfolding_all rfl) ?_
    | refine ⟨_, col_at2 (List.all_eq_true.mp hall x (List.mem_of_mem_take hxx)), ?_⟩
    | with_reducible refine rp_lit ?_
    | with_reducible refine rp_glb ?_
    | with_reducible refine rp_bin ?_
    | with_reducible refine rp_cmp ?_
    | with_reducible refine rp_cons ?_
    | with_reducible refine rp_nil ?_
    | with_reducible refine rp_idx ?_
    | with_reducible refine rp_call ?_
    | with_reducible refine rp_bi ?_
    | with_reducible refine rp_fz ?_
    | with_reducible refine rp_and ?_
    | with_reducible refine rp_or ?_
    | with_reducible refine rp_not ?_
    | with_reducible refine rp_ifT ?_
    | with_reducible refine rp_slc ?_
    | with_reducible refine rp_p0 ?_
    | with_reducible refine rp_p1 ?_
    | with_reducible refine rp_tup ?_
    | with_reducible refine rp_lst ?_
    | with_reducible refine rp_isi ?_
    | with_reducible refine rp_isit ?_
    | with_reducible refine rp_mth ?_
    | with_reducible refine rp_cmp2 ?_
    | with_reducible refine rp_neg ?_
    | with_reducible refine rp_t0 ?_
    | with_reducible refine rp_t1 ?_
    | with_reducible refine rp_lc ?_
    | with_reducible refine rp_lcL ?_
    | with_reducible refine rp_lstL ?_
    | with_reducible refine rp_catL ?_
    | with_reducible refine rp_listL ?_
    | with_reducible refine rp_of ?_
    | with_reducible refine rp_r1 ?_
    | with_reducible refine rp_r2 ?_
    | with_reducible refine rp_enum ?_
    | with_reducible refine rp_zip ?_
    | with_reducible refine op_nil ?_
    | with_reducible refine op_norm (by simp only [List.set_cons_succ, List.set_cons_zero, List.map_cons, List.map_nil, List.cons_append, List.nil_append]; rfl) (op_cons ?_)
    | with_reducible refine op_cons ?_
    | with_reducible refine op_asg ?_
    | with_reducible refine op_ifT ?_
    | with_reducible refine rt_and ?_
    | with_reducible refine rt_or ?_
    | with_reducible refine rt_not ?_
    | with_reducible refine rt_of ?_
    | with_reducible refine op_ret ?_
    | with_reducible refine op_new ?_
    | with_reducible refine op_app (by with_unfolding_all rfl) (by first | exact st_get | exact st_get2) ?_
    | with_reducible refine op_aug (by with_unfolding_all rfl) (by decide) ?_
    | with_reducible refine op_for ?_
    | with_reducible refine op_par ?_
    | with_reducible refine op_tp ?_
    | with_reducible refine op_seti (by with_unfolding_all rfl) ?_
    | with_reducible refine op_expr ?_
    | with_reducible refine op_doc ?_
    | with_reducible refine op_pass ?_
    | with_reducible refine op_retN ?_
    | with_reducible refine fin0 ?_
    | with_reducible refine fin1 ?_
    | with_reducible refine fino1 ?_
    | with_reducible refine fin2 ?_
    | refine ⟨_, _, _, _, rfl, st_get, lt_sz (by first | omega | (simp only [List.length_map, List.length_append, List.length_cons, List.length_nil]; omega)), st_set, ?_⟩
    | refine ⟨_, rfl, rngOk_in (by omega) (by omega), ?_⟩
    | refine ⟨_, src_live, ?_⟩
    | refine ⟨_, bi_live rfl, ?_⟩
    | (refine ⟨_, rfl, fun h => ?_, fun h => ?_⟩ <;> try (first | exact absurd h (by decide) | exact (f_t h).elim | exact (t_f h).elim))
    | refine ⟨_, rfl, ?_⟩
    | refine ⟨_, if_pos (by first | assumption | omega), ?_⟩
    | refine ⟨_, _, rfl, le_sz rfl, ?_⟩
    | refine ⟨_, _, rfl, rfl, ?_⟩
    | refine ⟨_, _, rfl, if_pos (by first | assumption | omega), ?_⟩
    | refine ⟨_, rfl, rfl, ?_⟩
    | refine ⟨rfl, ?_⟩
    | exact rfl
    | dsimp only)
                    · repeat' (first
    | with_reducible refine rp_var (by with_unfolding_all rfl) ?_
    | refine ⟨_, any_bls trdB (cs.take k.toNat), ?_⟩
    | with_reducible refine rp_lit ?_
    | with_reducible refine rp_glb ?_
    | with_reducible refine rp_bin ?_
    | with_reducible refine rp_cmp ?_
    | with_reducible refine rp_cons ?_
    | with_reducible refine rp_nil ?_
    | with_reducible refine rp_idx ?_
    | with_reducible refine rp_call ?_
    | with_reducible refine rp_bi ?_
    | with_reducible refine rp_fz ?_
    | with_reducible refine rp_and ?_
    | with_reducible refine rp_or ?_
    | with_reducible refine rp_not ?_
    | with_reducible refine rp_ifT ?_
    | with_reducible refine rp_slc ?_
    | with_reducible refine rp_p0 ?_
    | with_reducible refine rp_p1 ?_
    | with_reducible refine rp_tup ?_
    | with_reducible refine rp_lst ?_
    | with_reducible refine rp_isi ?_
    | with_reducible refine rp_isit ?_
    | with_reducible refine rp_mth ?_
    | with_reducible refine rp_cmp2 ?_
    | with_reducible refine rp_neg ?_
    | with_reducible refine rp_t0 ?_
    | with_reducible refine rp_t1 ?_
    | with_reducible refine rp_lc ?_
    | with_reducible refine rp_lcL ?_
    | with_reducible refine rp_lstL ?_
    | with_reducible refine rp_catL ?_
    | with_reducible refine rp_listL ?_
    | with_reducible refine rp_of ?_
    | with_reducible refine rp_r1 ?_
    | with_reducible refine rp_r2 ?_
    | with_reducible refine rp_enum ?_
    | with_reducible refine rp_zip ?_
    | with_reducible refine op_nil ?_
    | with_reducible refine op_norm (by simp only [List.set_cons_succ, List.set_cons_zero, List.map_cons, List.map_nil, List.cons_append, List.nil_append]; rfl) (op_cons ?_)
    | with_reducible refine op_cons ?_
    | with_reducible refine op_asg ?_
    | with_reducible refine op_ifT ?_
    | with_reducible refine rt_and ?_
    | with_reducible refine rt_or ?_
    | with_reducible refine rt_not ?_
    | with_reducible refine rt_of ?_
    | with_reducible refine op_ret ?_
    | with_reducible refine op_new ?_
    | with_reducible refine op_app (by with_unfolding_all rfl) (by first | exact st_get | exact st_get2) ?_
    | with_reducible refine op_aug (by with_unfolding_all rfl) (by decide) ?_
    | with_reducible refine op_for ?_
    | with_reducible refine op_par ?_
    | with_reducible refine op_tp ?_
    | with_reducible refine op_seti (by with_unfolding_all rfl) ?_
    | with_reducible refine op_expr ?_
    | with_reducible refine op_doc ?_
    | with_reducible refine op_pass ?_
    | with_reducible refine op_retN ?_
    | with_reducible refine fin0 ?_
    | with_reducible refine fin1 ?_
    | with_reducible refine fino1 ?_
    | with_reducible refine fin2 ?_
    | refine ⟨_, _, _, _, rfl, st_get, lt_sz (by first | omega | (simp only [List.length_map, List.length_append, List.length_cons, List.length_nil]; omega)), st_set, ?_⟩
    | refine ⟨_, rfl, rngOk_in (by omega) (by omega), ?_⟩
    | refine ⟨_, src_live, ?_⟩
    | refine ⟨_, bi_live rfl, ?_⟩
    | (refine ⟨_, rfl, fun h => ?_, fun h => ?_⟩ <;> try (first | exact absurd h (by decide) | exact (f_t h).elim | exact (t_f h).elim))
    | refine ⟨_, rfl, ?_⟩
    | refine ⟨_, if_pos (by first | assumption | omega), ?_⟩
    | refine ⟨_, _, rfl, le_sz rfl, ?_⟩
    | refine ⟨_, _, rfl, rfl, ?_⟩
    | refine ⟨_, _, rfl, if_pos (by first | assumption | omega), ?_⟩
    | refine ⟨_, rfl, rfl, ?_⟩
    | refine ⟨rfl, ?_⟩
    | exact rfl
    | dsimp only)
                      simp [tabB, *, intD]
                  · simp [tabB, *]
                | _ =>
                  repeat' (first
    | with_reducible refine rp_var (by with_unfolding_all rfl) ?_
    | with_reducible refine rp_lit ?_
    | with_reducible refine rp_glb ?_
    | with_reducible refine rp_bin ?_
    | with_reducible refine rp_cmp ?_
    | with_reducible refine rp_cons ?_
    | with_reducible refine rp_nil ?_
    | with_reducible refine rp_idx ?_
    | with_reducible refine rp_call ?_
    | with_reducible refine rp_bi ?_
    | with_reducible refine rp_fz ?_
    | with_reducible refine rp_and ?_
    | with_reducible refine rp_or ?_
    | with_reducible refine rp_not ?_
    | with_reducible refine rp_ifT ?_
    | with_reducible refine rp_slc ?_
    | with_reducible refine rp_p0 ?_
    | with_reducible refine rp_p1 ?_
    | with_reducible refine rp_tup ?_
    | with_reducible refine rp_lst ?_
    | with_reducible refine rp_isi ?_
    | with_reducible refine rp_isit ?_
    | with_reducible refine rp_mth ?_
    | with_reducible refine rp_cmp2 ?_
    | with_reducible refine rp_neg ?_
    | with_reducible refine rp_t0 ?_
    | with_reducible refine rp_t1 ?_
    | with_reducible refine rp_lc ?_
    | with_reducible refine rp_lcL ?_
    | with_reducible refine rp_lstL ?_
    | with_reducible refine rp_catL ?_
    | with_reducible refine rp_listL ?_
    | with_reducible refine rp_of ?_
    | with_reducible refine rp_r1 ?_
    | with_reducible refine rp_r2 ?_
    | with_reducible refine rp_enum ?_
    | with_reducible refine rp_zip ?_
    | with_reducible refine op_nil ?_
    | with_reducible refine op_norm (by simp only [List.set_cons_succ, List.set_cons_zero, List.map_cons, List.map_nil, List.cons_append, List.nil_append]; rfl) (op_cons ?_)
    | with_reducible refine op_cons ?_
    | with_reducible refine op_asg ?_
    | with_reducible refine op_ifT ?_
    | with_reducible refine rt_and ?_
    | with_reducible refine rt_or ?_
    | with_reducible refine rt_not ?_
    | with_reducible refine rt_of ?_
    | with_reducible refine op_ret ?_
    | with_reducible refine op_new ?_
    | with_reducible refine op_app (by with_unfolding_all rfl) (by first | exact st_get | exact st_get2) ?_
    | with_reducible refine op_aug (by with_unfolding_all rfl) (by decide) ?_
    | with_reducible refine op_for ?_
    | with_reducible refine op_par ?_
    | with_reducible refine op_tp ?_
    | with_reducible refine op_seti (by with_unfolding_all rfl) ?_
    | with_reducible refine op_expr ?_
    | with_reducible refine op_doc ?_
    | with_reducible refine op_pass ?_
    | with_reducible refine op_retN ?_
    | with_reducible refine fin0 ?_
    | with_reducible refine fin1 ?_
    | with_reducible refine fino1 ?_
    | with_reducible refine fin2 ?_
    | refine ⟨_, _, _, _, rfl, st_get, lt_sz (by first | omega | (simp only [List.length_map, List.length_append, List.length_cons, List.length_nil]; omega)), st_set, ?_⟩
    | refine ⟨_, rfl, rngOk_in (by omega) (by omega), ?_⟩
    | refine ⟨_, src_live, ?_⟩
    | refine ⟨_, bi_live rfl, ?_⟩
    | (refine ⟨_, rfl, fun h => ?_, fun h => ?_⟩ <;> try (first | exact absurd h (by decide) | exact (f_t h).elim | exact (t_f h).elim))
    | refine ⟨_, rfl, ?_⟩
    | refine ⟨_, if_pos (by first | assumption | omega), ?_⟩
    | refine ⟨_, _, rfl, le_sz rfl, ?_⟩
    | refine ⟨_, _, rfl, rfl, ?_⟩
    | refine ⟨_, _, rfl, if_pos (by first | assumption | omega), ?_⟩
    | refine ⟨_, rfl, rfl, ?_⟩
    | refine ⟨rfl, ?_⟩
    | exact rfl
    | dsimp only)
                  simp [tabB, fromB]
              · simp [tabB, *]
            · simp [tabB, *]
        · have h2 : ¬ (cs.length ≤ 4) := by have := of_decide_eq_false h; omega
          simp [tabB, h2]
        · rename_i h'
          have h2 : ¬ (1 ≤ cs.length) := by have := of_decide_eq_false h'; omega
          simp [tabB, h2]
        · simp [tabB, *]
      | _ =>
        repeat' (first
    | with_reducible refine rp_var (by with_unfolding_all rfl) ?_
    | refine ⟨_, q0, ?_⟩
    | refine ⟨_, q1, ?_⟩
    | refine ⟨_, q2, ?_⟩
    | with_reducible refine rp_lit ?_
    | with_reducible refine rp_glb ?_
    | with_reducible refine rp_bin ?_
    | with_reducible refine rp_cmp ?_
    | with_reducible refine rp_cons ?_
    | with_reducible refine rp_nil ?_
    | with_reducible refine rp_idx ?_
    | with_reducible refine rp_call ?_
    | with_reducible refine rp_bi ?_
    | with_reducible refine rp_fz ?_
    | with_reducible refine rp_and ?_
    | with_reducible refine rp_or ?_
    | with_reducible refine rp_not ?_
    | with_reducible refine rp_ifT ?_
    | with_reducible refine rp_slc ?_
    | with_reducible refine rp_p0 ?_
    | with_reducible refine rp_p1 ?_
    | with_reducible refine rp_tup ?_
    | with_reducible refine rp_lst ?_
    | with_reducible refine rp_isi ?_
    | with_reducible refine rp_isit ?_
    | with_reducible refine rp_mth ?_
    | with_reducible refine rp_cmp2 ?_
    | with_reducible refine rp_neg ?_
    | with_reducible refine rp_t0 ?_
    | with_reducible refine rp_t1 ?_
    | with_reducible refine rp_lc ?_
    | with_reducible refine rp_lcL ?_
    | with_reducible refine rp_lstL ?_
    | with_reducible refine rp_catL ?_
    | with_reducible refine rp_listL ?_
    | with_reducible refine rp_of ?_
    | with_reducible refine rp_r1 ?_
    | with_reducible refine rp_r2 ?_
    | with_reducible refine rp_enum ?_
    | with_reducible refine rp_zip ?_
    | with_reducible refine op_nil ?_
    | with_reducible refine op_norm (by simp only [List.set_cons_succ, List.set_cons_zero, List.map_cons, List.map_nil, List.cons_append, List.nil_append]; rfl) (op_cons ?_)
    | with_reducible refine op_cons ?_
    | with_reducible refine op_asg ?_
    | with_reducible refine op_ifT ?_
    | with_reducible refine rt_and ?_
    | with_reducible refine rt_or ?_
    | with_reducible refine rt_not ?_
    | with_reducible refine rt_of ?_
    | with_reducible refine op_ret ?_
    | with_reducible refine op_new ?_
    | with_reducible refine op_app (by with_unfolding_all rfl) (by first | exact st_get | exact st_get2) ?_
    | with_reducible refine op_aug (by with_unfolding_all rfl) (by decide) ?_
    | with_reducible refine op_for ?_
    | with_reducible refine op_par ?_
    | with_reducible refine op_tp ?_
    | with_reducible refine op_seti (by with_unfolding_all rfl) ?_
    | with_reducible refine op_expr ?_
    | with_reducible refine op_doc ?_
    | with_reducible refine op_pass ?_
    | with_reducible refine op_retN ?_
    | with_reducible refine fin0 ?_
    | with_reducible refine fin1 ?_
    | with_reducible refine fino1 ?_
    | with_reducible refine fin2 ?_
    | refine ⟨_, _, _, _, rfl, st_get, lt_sz (by first | omega | (simp only [List.length_map, List.length_append, List.length_cons, List.length_nil]; omega)), st_set, ?_⟩
    | refine ⟨_, rfl, rngOk_in (by omega) (by omega), ?_⟩
    | refine ⟨_, src_live, ?_⟩
    | refine ⟨_, bi_live rfl, ?_⟩
    | (refine ⟨_, rfl, fun h => ?_, fun h => ?_⟩ <;> try (first | exact absurd h (by decide) | exact (f_t h).elim | exact (t_f h).elim))
    | refine ⟨_, rfl, ?_⟩
    | refine ⟨_, if_pos (by first | assumption | omega), ?_⟩
    | refine ⟨_, _, rfl, le_sz rfl, ?_⟩
    | refine ⟨_, _, rfl, rfl, ?_⟩
    | refine ⟨_, _, rfl, if_pos (by first | assumption | omega), ?_⟩
    | refine ⟨_, rfl, rfl, ?_⟩
    | refine ⟨rfl, ?_⟩
    | exact rfl
    | dsimp only)
        all_goals (try simp [tabB, *])
    · have h3' : deq (.int xs.length) (.int 3) = false := by
        rw [deq]; exact beq_eq_false_iff_ne.mpr h3
      have e1 : cmpD .ne (.int xs.length) (.int 3) = some true := by simp only [cmpD, scalD, Bool.true_or, if_true, h3', Bool.not_false]
      rw [tabB_len h3]
      repeat' (first
    | with_reducible refine rp_var (by with_unfolding_all rfl) ?_
    | refine ⟨_, e1, ?_⟩
    | with_reducible refine rp_lit ?_
    | with_reducible refine rp_glb ?_
    | with_reducible refine rp_bin ?_
    | with_reducible refine rp_cmp ?_
    | with_reducible refine rp_cons ?_
    | with_reducible refine rp_nil ?_
    | with_reducible refine rp_idx ?_
    | with_reducible refine rp_call ?_
    | with_reducible refine rp_bi ?_
    | with_reducible refine rp_fz ?_
    | with_reducible refine rp_and ?_
    | with_reducible refine rp_or ?_
    | with_reducible refine rp_not ?_
    | with_reducible refine rp_ifT ?_
    | with_reducible refine rp_slc ?_
    | with_reducible refine rp_p0 ?_
    | with_reducible refine rp_p1 ?_
    | with_reducible refine rp_tup ?_
    | with_reducible refine rp_lst ?_
    | with_reducible refine rp_isi ?_
    | with_reducible refine rp_isit ?_
    | with_reducible refine rp_mth ?_
    | with_reducible refine rp_cmp2 ?_
    | with_reducible refine rp_neg ?_
    | with_reducible refine rp_t0 ?_
    | with_reducible refine rp_t1 ?_
    | with_reducible refine rp_lc ?_
    | with_reducible refine rp_lcL ?_
    | with_reducible refine rp_lstL ?_
    | with_reducible refine rp_catL ?_
    | with_reducible refine rp_listL ?_
    | with_reducible refine rp_of ?_
    | with_reducible refine rp_r1 ?_
    | with_reducible refine rp_r2 ?_
    | with_reducible refine rp_enum ?_
    | with_reducible refine rp_zip ?_
    | with_reducible refine op_nil ?_
    | with_reducible refine op_norm (by simp only [List.set_cons_succ, List.set_cons_zero, List.map_cons, List.map_nil, List.cons_append, List.nil_append]; rfl) (op_cons ?_)
    | with_reducible refine op_cons ?_
    | with_reducible refine op_asg ?_
    | with_reducible refine op_ifT ?_
    | with_reducible refine rt_and ?_
    | with_reducible refine rt_or ?_
    | with_reducible refine rt_not ?_
    | with_reducible refine rt_of ?_
    | with_reducible refine op_ret ?_
    | with_reducible refine op_new ?_
    | with_reducible refine op_app (by with_unfolding_all rfl) (by first | exact st_get | exact st_get2) ?_
    | with_reducible refine op_aug (by with_unfolding_all rfl) (by decide) ?_
    | with_reducible refine op_for ?_
    | with_reducible refine op_par ?_
    | with_reducible refine op_tp ?_
    | with_reducible refine op_seti (by with_unfolding_all rfl) ?_
    | with_reducible refine op_expr ?_
    | with_reducible refine op_doc ?_
    | with_reducible refine op_pass ?_
    | with_reducible refine op_retN ?_
    | with_reducible refine fin0 ?_
    | with_reducible refine fin1 ?_
    | with_reducible refine fino1 ?_
    | with_reducible refine fin2 ?_
    | refine ⟨_, _, _, _, rfl, st_get, lt_sz (by first | omega | (simp only [List.length_map, List.length_append, List.length_cons, List.length_nil]; omega)), st_set, ?_⟩
    | refine ⟨_, rfl, rngOk_in (by omega) (by omega), ?_⟩
    | refine ⟨_, src_live, ?_⟩
    | refine ⟨_, bi_live rfl, ?_⟩
    | (refine ⟨_, rfl, fun h => ?_, fun h => ?_⟩ <;> try (first | exact absurd h (by decide) | exact (f_t h).elim | exact (t_f h).elim))
    | refine ⟨_, rfl, ?_⟩
    | refine ⟨_, if_pos (by first | assumption | omega), ?_⟩
    | refine ⟨_, _, rfl, le_sz rfl, ?_⟩
    | refine ⟨_, _, rfl, rfl, ?_⟩
    | refine ⟨_, _, rfl, if_pos (by first | assumption | omega), ?_⟩
    | refine ⟨_, rfl, rfl, ?_⟩
    | refine ⟨rfl, ?_⟩
    | exact rfl
    | dsimp only)
      refine ⟨fun _ => ?_, fun h => by cases h⟩
      repeat' (first
    | with_reducible refine rp_var (by with_unfolding_all rfl) ?_
    | with_reducible refine rp_lit ?_
    | with_reducible refine rp_glb ?_
    | with_reducible refine rp_bin ?_
    | with_reducible refine rp_cmp ?_
    | with_reducible refine rp_cons ?_
    | with_reducible refine rp_nil ?_
    | with_reducible refine rp_idx ?_
    | with_reducible refine rp_call ?_
    | with_reducible refine rp_bi ?_
    | with_reducible refine rp_fz ?_
    | with_reducible refine rp_and ?_
    | with_reducible refine rp_or ?_
    | with_reducible refine rp_not ?_
    | with_reducible refine rp_ifT ?_
    | with_reducible refine rp_slc ?_
    | with_reducible refine rp_p0 ?_
    | with_reducible refine rp_p1 ?_
    | with_reducible refine rp_tup ?_
    | with_reducible refine rp_lst ?_
    | with_reducible refine rp_isi ?_
    | with_reducible refine rp_isit ?_
    | with_reducible refine rp_mth ?_
    | with_reducible refine rp_cmp2 ?_
    | with_reducible refine rp_neg ?_
    | with_reducible refine rp_t0 ?_
    | with_reducible refine rp_t1 ?_
    | with_reducible refine rp_lc ?_
    | with_reducible refine rp_lcL ?_
    | with_reducible refine rp_lstL ?_
    | with_reducible refine rp_catL ?_
    | with_reducible refine rp_listL ?_
    | with_reducible refine rp_of ?_
    | with_reducible refine rp_r1 ?_
    | with_reducible refine rp_r2 ?_
    | with_reducible refine rp_enum ?_
    | with_reducible refine rp_zip ?_
    | with_reducible refine op_nil ?_
    | with_reducible refine op_norm (by simp only [List.set_cons_succ, List.set_cons_zero, List.map_cons, List.map_nil, List.cons_append, List.nil_append]; rfl) (op_cons ?_)
    | with_reducible refine op_cons ?_
    | with_reducible refine op_asg ?_
    | with_reducible refine op_ifT ?_
    | with_reducible refine rt_and ?_
    | with_reducible refine rt_or ?_
    | with_reducible refine rt_not ?_
    | with_reducible refine rt_of ?_
    | with_reducible refine op_ret ?_
    | with_reducible refine op_new ?_
    | with_reducible refine op_app (by with_unfolding_all rfl) (by first | exact st_get | exact st_get2) ?_
    | with_reducible refine op_aug (by with_unfolding_all rfl) (by decide) ?_
    | with_reducible refine op_for ?_
    | with_reducible refine op_par ?_
    | with_reducible refine op_tp ?_
    | with_reducible refine op_seti (by with_unfolding_all rfl) ?_
    | with_reducible refine op_expr ?_
    | with_reducible refine op_doc ?_
    | with_reducible refine op_pass ?_
    | with_reducible refine op_retN ?_
    | with_reducible refine fin0 ?_
    | with_reducible refine fin1 ?_
    | with_reducible refine fino1 ?_
    | with_reducible refine fin2 ?_
    | refine ⟨_, _, _, _, rfl, st_get, lt_sz (by first | omega | (simp only [List.length_map, List.length_append, List.length_cons, List.length_nil]; omega)), st_set, ?_⟩
    | refine ⟨_, rfl, rngOk_in (by omega) (by omega), ?_⟩
    | refine ⟨_, src_live, ?_⟩
    | refine ⟨_, bi_live rfl, ?_⟩
    | (refine ⟨_, rfl, fun h => ?_, fun h => ?_⟩ <;> try (first | exact absurd h (by decide) | exact (f_t h).elim | exact (t_f h).elim))
    | refine ⟨_, rfl, ?_⟩
    | refine ⟨_, if_pos (by first | assumption | omega), ?_⟩
    | refine ⟨_, _, rfl, le_sz rfl, ?_⟩
    | refine ⟨_, _, rfl, rfl, ?_⟩
    | refine ⟨_, _, rfl, if_pos (by first | assumption | omega), ?_⟩
    | refine ⟨_, rfl, rfl, ?_⟩
    | refine ⟨rfl, ?_⟩
    | exact rfl
    | dsimp only)
  | _ => repeat' (first
    | with_reducible refine rp_var (by with_unfolding_all rfl) ?_
    | with_reducible refine rp_lit ?_
    | with_reducible refine rp_glb ?_
    | with_reducible refine rp_bin ?_
    | with_reducible refine rp_cmp ?_
    | with_reducible refine rp_cons ?_
    | with_reducible refine rp_nil ?_
    | with_reducible refine rp_idx ?_
    | with_reducible refine rp_call ?_
    | with_reducible refine rp_bi ?_
    | with_reducible refine rp_fz ?_
    | with_reducible refine rp_and ?_
    | with_reducible refine rp_or ?_
    | with_reducible refine rp_not ?_
    | with_reducible refine rp_ifT ?_
    | with_reducible refine rp_slc ?_
    | with_reducible refine rp_p0 ?_
    | with_reducible refine rp_p1 ?_
    | with_reducible refine rp_tup ?_
    | with_reducible refine rp_lst ?_
    | with_reducible refine rp_isi ?_
    | with_reducible refine rp_isit ?_
    | with_reducible refine rp_mth ?_
    | with_reducible refine rp_cmp2 ?_
    | with_reducible refine rp_neg ?_
    | with_reducible refine rp_t0 ?_
    | with_reducible refine rp_t1 ?_
    | with_reducible refine rp_lc ?_
    | with_reducible refine rp_lcL ?_
    | with_reducible refine rp_lstL ?_
    | with_reducible refine rp_catL ?_
    | with_reducible refine rp_listL ?_
    | with_reducible refine rp_of ?_
    | with_reducible refine rp_r1 ?_
    | with_reducible refine rp_r2 ?_
    | with_reducible refine rp_enum ?_
    | with_reducible refine rp_zip ?_
    | with_reducible refine op_nil ?_
    | with_reducible refine op_norm (by simp only [List.set_cons_succ, List.set_cons_zero, List.map_cons, List.map_nil, List.cons_append, List.nil_append]; rfl) (op_cons ?_)
    | with_reducible refine op_cons ?_
    | with_reducible refine op_asg ?_
    | with_reducible refine op_ifT ?_
    | with_reducible refine rt_and ?_
    | with_reducible refine rt_or ?_
    | with_reducible refine rt_not ?_
    | with_reducible refine rt_of ?_
    | with_reducible refine op_ret ?_
    | with_reducible refine op_new ?_
    | with_reducible refine op_app (by with_unfolding_all rfl) (by first | exact st_get | exact st_get2) ?_
    | with_reducible refine op_aug (by with_unfolding_all rfl) (by decide) ?_
    | with_reducible refine op_for ?_
    | with_reducible refine op_par ?_
    | with_reducible refine op_tp ?_
    | with_reducible refine op_seti (by with_unfolding_all rfl) ?_
    | with_reducible refine op_expr ?_
    | with_reducible refine op_doc ?_
    | with_reducible refine op_pass ?_
    | with_reducible refine op_retN ?_
    | with_reducible refine fin0 ?_
    | with_reducible refine fin1 ?_
    | with_reducible refine fino1 ?_
    | with_reducible refine fin2 ?_
    | refine ⟨_, _, _, _, rfl, st_get, lt_sz (by first | omega | (simp only [List.length_map, List.length_append, List.length_cons, List.length_nil]; omega)), st_set, ?_⟩
    | refine ⟨_, rfl, rngOk_in (by omega) (by omega), ?_⟩
    | refine ⟨_, src_live, ?_⟩
    | refine ⟨_, bi_live rfl, ?_⟩
    | (refine ⟨_, rfl, fun h => ?_, fun h => ?_⟩ <;> try (first | exact absurd h (by decide) | exact (f_t h).elim | exact (t_f h).elim))
    | refine ⟨_, rfl, ?_⟩
    | refine ⟨_, if_pos (by first | assumption | omega), ?_⟩
    | refine ⟨_, _, rfl, le_sz rfl, ?_⟩
    | refine ⟨_, _, rfl, rfl, ?_⟩
    | refine ⟨_, _, rfl, if_pos (by first | assumption | omega), ?_⟩
    | refine ⟨_, rfl, rfl, ?_⟩
    | refine ⟨rfl, ?_⟩
    | exact rfl
    | dsimp only)
end M

/-! a ground: the program's reading, the laws' reading -/
namespace M
open PySem PySem.Spec PyProof.Rows L2
theorem tabB_shape {t : D} (h : tabB t = true) : ∃ w k cs, t = .tup [.str w, .int k, .tup cs] ∧ nameS w = true := by
  cases t with
  | tup xs =>
    by_cases h3 : (xs.length : Int) = 3
    · obtain ⟨x, y, z, rfl⟩ := three h3
      cases z with
      | tup cs =>
        simp only [tabB, Bool.and_eq_true] at h
        obtain ⟨⟨⟨⟨⟨h1, -⟩, -⟩, -⟩, h5⟩, -⟩ := h
        cases x <;> simp only [nameB, Bool.false_eq_true] at h1
        cases y <;> simp only [fromB, Bool.false_eq_true] at h5
        exact ⟨_, _, _, rfl, h1⟩
      | _ => cases h
    · rw [tabB_len h3] at h; cases h
  | _ => cases h
theorem tab_at0 {c : D} (h : tabB c = true) : idxD c (.int 0) = some (.str (strD (fstD c))) := by
  obtain ⟨w, lo, x, rfl, -⟩ := tabB_shape h
  exact at0 _ _
theorem tab_name {c : D} (h : tabB c = true) : nameS (strD (fstD c)) = true := by
  obtain ⟨w, lo, x, rfl, h'⟩ := tabB_shape h
  exact h'
theorem rises_zip : ∀ ts : List D, ((ts.zip (ts.drop 1)).all fun p => decide ((strD (fstD p.1)).cps.toList < (strD (fstD p.2)).cps.toList)) = rises (namesOf ts)
  | [] => rfl
  | [_] => rfl
  | a :: b :: r => by
    have := rises_zip (b :: r)
    simp only [List.drop_succ_cons, List.drop_zero, List.zip_cons_cons, List.all_cons, namesOf, List.map_cons, rises] at this ⊢
    rw [this]
theorem cut_of (xs : List D) {a : Int} (h0 : 0 ≤ a) : cutD xs (some a) none = xs.drop a.toNat := cutL_of xs h0
theorem is_ground_ok {T : List Fn} {i iW iF iN iA iO iC iT b : Nat} (hT : T[i]? = some (f_is_ground iT)) (hTa : T[iT]? = some (f_is_table iN iA iO iC iF)) (hW : T[iW]? = some f_is_whole) (hF : T[iF]? = some (f_is_from iW)) (hN : T[iN]? = some f_is_name) (hA : T[iA]? = some (f_are_names iN)) (hO : T[iO]? = some f_names_of) (hC : T[iC]? = some (f_is_column iF iN)) (n : Nat) {d : D} (hd : Nc b d) (hb : b ≤ 1000) (S : St') : RP (FT T (n + 5) i [.t d] S) (Is S (.bl (groundB d))) noE := by
  refine rp_fn hT rfl rfl ?_
  simp only [f_is_ground, pad]
  cases hd with
  | @tup ts hx hl =>
    repeat' (first
    | with_reducible refine rp_var (by with_unfolding_all rfl) ?_
    | with_reducible refine rp_lit ?_
    | with_reducible refine rp_glb ?_
    | with_reducible refine rp_bin ?_
    | with_reducible refine rp_cmp ?_
    | with_reducible refine rp_cons ?_
    | with_reducible refine rp_nil ?_
    | with_reducible refine rp_idx ?_
    | with_reducible refine rp_call ?_
    | with_reducible refine rp_bi ?_
    | with_reducible refine rp_fz ?_
    | with_reducible refine rp_and ?_
    | with_reducible refine rp_or ?_
    | with_reducible refine rp_not ?_
    | with_reducible refine rp_ifT ?_
    | with_reducible refine rp_slc ?_
    | with_reducible refine rp_p0 ?_
    | with_reducible refine rp_p1 ?_
    | with_reducible refine rp_tup ?_
    | with_reducible refine rp_lst ?_
    | with_reducible refine rp_isi ?_
    | with_reducible refine rp_isit ?_
    | with_reducible refine rp_mth ?_
    | with_reducible refine rp_cmp2 ?_
    | with_reducible refine rp_neg ?_
    | with_reducible refine rp_t0 ?_
    | with_reducible refine rp_t1 ?_
    | with_reducible refine rp_lc ?_
    | with_reducible refine rp_lcL ?_
    | with_reducible refine rp_lstL ?_
    | with_reducible refine rp_catL ?_
    | with_reducible refine rp_listL ?_
    | with_reducible refine rp_of ?_
    | with_reducible refine rp_r1 ?_
    | with_reducible refine rp_r2 ?_
    | with_reducible refine rp_enum ?_
    | with_reducible refine rp_zip ?_
    | with_reducible refine op_nil ?_
    | with_reducible refine op_norm (by simp only [List.set_cons_succ, List.set_cons_zero, List.map_cons, List.map_nil, List.cons_append, List.nil_append]; rfl) (op_cons ?_)
    | with_reducible refine op_cons ?_
    | with_reducible refine op_asg ?_
    | with_reducible refine op_ifT ?_
    | with_reducible refine rt_and ?_
    | with_reducible refine rt_or ?_
    | with_reducible refine rt_not ?_
    | with_reducible refine rt_of ?_
    | with_reducible refine op_ret ?_
    | with_reducible refine op_new ?_
    | with_reducible refine op_app (by with_unfolding_all rfl) (by first | exact st_get | exact st_get2) ?_
    | with_reducible refine op_aug (by with_unfolding_all rfl) (by decide) ?_
    | with_reducible refine op_for ?_
    | with_reducible refine op_par ?_
    | with_reducible refine op_tp ?_
    | with_reducible refine op_seti (by with_unfolding_all rfl) ?_
    | with_reducible refine op_expr ?_
    | with_reducible refine op_doc ?_
    | with_reducible refine op_pass ?_
    | with_reducible refine op_retN ?_
    | with_reducible refine fin0 ?_
    | with_reducible refine fin1 ?_
    | with_reducible refine fino1 ?_
    | with_reducible refine fin2 ?_
    | refine ⟨_, _, _, _, rfl, st_get, lt_sz (by first | omega | (simp only [List.length_map, List.length_append, List.length_cons, List.length_nil]; omega)), st_set, ?_⟩
    | refine ⟨_, rfl, rngOk_in (by omega) (by omega), ?_⟩
    | refine ⟨_, src_live, ?_⟩
    | refine ⟨_, bi_live rfl, ?_⟩
    | (refine ⟨_, rfl, fun h => ?_, fun h => ?_⟩ <;> try (first | exact absurd h (by decide) | exact (f_t h).elim | exact (t_f h).elim))
    | refine ⟨_, rfl, ?_⟩
    | refine ⟨_, if_pos (by first | assumption | omega), ?_⟩
    | refine ⟨_, _, rfl, le_sz rfl, ?_⟩
    | refine ⟨_, _, rfl, rfl, ?_⟩
    | refine ⟨_, _, rfl, if_pos (by first | assumption | omega), ?_⟩
    | refine ⟨_, rfl, rfl, ?_⟩
    | refine ⟨rfl, ?_⟩
    | exact rfl
    | dsimp only)
    · rename_i h0 h1
      have h1 : 1 ≤ ts.length := by have := of_decide_eq_true h1; omega
      have h4 : ts.length ≤ 4 := by have := of_decide_eq_true h; omega
      refine rp_lcI (fun x => .bl (tabB x)) (by omega) (fun x hxx acc => ?_) ?_
      · refine ⟨_, rfl, ?_⟩
        repeat' (first
    | with_reducible refine rp_var (by with_unfolding_all rfl) ?_
    | with_reducible refine rp_lit ?_
    | with_reducible refine rp_glb ?_
    | with_reducible refine rp_bin ?_
    | with_reducible refine rp_cmp ?_
    | with_reducible refine rp_cons ?_
    | with_reducible refine rp_nil ?_
    | with_reducible refine rp_idx ?_
    | with_reducible refine rp_call ?_
    | with_reducible refine rp_bi ?_
    | with_reducible refine rp_fz ?_
    | with_reducible refine rp_and ?_
    | with_reducible refine rp_or ?_
    | with_reducible refine rp_not ?_
    | with_reducible refine rp_ifT ?_
    | with_reducible refine rp_slc ?_
    | with_reducible refine rp_p0 ?_
    | with_reducible refine rp_p1 ?_
    | with_reducible refine rp_tup ?_
    | with_reducible refine rp_lst ?_
    | with_reducible refine rp_isi ?_
    | with_reducible refine rp_isit ?_
    | with_reducible refine rp_mth ?_
    | with_reducible refine rp_cmp2 ?_
    | with_reducible refine rp_neg ?_
    | with_reducible refine rp_t0 ?_
    | with_reducible refine rp_t1 ?_
    | with_reducible refine rp_lc ?_
    | with_reducible refine rp_lcL ?_
    | with_reducible refine rp_lstL ?_
    | with_reducible refine rp_catL ?_
    | with_reducible refine rp_listL ?_
    | with_reducible refine rp_of ?_
    | with_reducible refine rp_r1 ?_
    | with_reducible refine rp_r2 ?_
    | with_reducible refine rp_enum ?_
    | with_reducible refine rp_zip ?_
    | with_reducible refine op_nil ?_
    | with_reducible refine op_norm (by simp only [List.set_cons_succ, List.set_cons_zero, List.map_cons, List.map_nil, List.cons_append, List.nil_append]; rfl) (op_cons ?_)
    | with_reducible refine op_cons ?_
    | with_reducible refine op_asg ?_
    | with_reducible refine op_ifT ?_
    | with_reducible refine rt_and ?_
    | with_reducible refine rt_or ?_
    | with_reducible refine rt_not ?_
    | with_reducible refine rt_of ?_
    | with_reducible refine op_ret ?_
    | with_reducible refine op_new ?_
    | with_reducible refine op_app (by with_unfolding_all rfl) (by first | exact st_get | exact st_get2) ?_
    | with_reducible refine op_aug (by with_unfolding_all rfl) (by decide) ?_
    | with_reducible refine op_for ?_
    | with_reducible refine op_par ?_
    | with_reducible refine op_tp ?_
    | with_reducible refine op_seti (by with_unfolding_all rfl) ?_
    | with_reducible refine op_expr ?_
    | with_reducible refine op_doc ?_
    | with_reducible refine op_pass ?_
    | with_reducible refine op_retN ?_
    | with_reducible refine fin0 ?_
    | with_reducible refine fin1 ?_
    | with_reducible refine fino1 ?_
    | with_reducible refine fin2 ?_
    | refine ⟨_, _, _, _, rfl, st_get, lt_sz (by first | omega | (simp only [List.length_map, List.length_append, List.length_cons, List.length_nil]; omega)), st_set, ?_⟩
    | refine ⟨_, rfl, rngOk_in (by omega) (by omega), ?_⟩
    | refine ⟨_, src_live, ?_⟩
    | refine ⟨_, bi_live rfl, ?_⟩
    | (refine ⟨_, rfl, fun h => ?_, fun h => ?_⟩ <;> try (first | exact absurd h (by decide) | exact (f_t h).elim | exact (t_f h).elim))
    | refine ⟨_, rfl, ?_⟩
    | refine ⟨_, if_pos (by first | assumption | omega), ?_⟩
    | refine ⟨_, _, rfl, le_sz rfl, ?_⟩
    | refine ⟨_, _, rfl, rfl, ?_⟩
    | refine ⟨_, _, rfl, if_pos (by first | assumption | omega), ?_⟩
    | refine ⟨_, rfl, rfl, ?_⟩
    | refine ⟨rfl, ?_⟩
    | exact rfl
    | dsimp only)
        exact RP.of_no (is_table_ok hTa hW hF hN hA hO hC n (hx x hxx) hb _) fun v S1 ⟨e1, e2⟩ => ⟨e2, e1⟩
      · repeat' (first
    | with_reducible refine rp_var (by with_unfolding_all rfl) ?_
    | refine ⟨_, all_bls tabB ts, ?_⟩
    | with_reducible refine rp_lit ?_
    | with_reducible refine rp_glb ?_
    | with_reducible refine rp_bin ?_
    | with_reducible refine rp_cmp ?_
    | with_reducible refine rp_cons ?_
    | with_reducible refine rp_nil ?_
    | with_reducible refine rp_idx ?_
    | with_reducible refine rp_call ?_
    | with_reducible refine rp_bi ?_
    | with_reducible refine rp_fz ?_
    | with_reducible refine rp_and ?_
    | with_reducible refine rp_or ?_
    | with_reducible refine rp_not ?_
    | with_reducible refine rp_ifT ?_
    | with_reducible refine rp_slc ?_
    | with_reducible refine rp_p0 ?_
    | with_reducible refine rp_p1 ?_
    | with_reducible refine rp_tup ?_
    | with_reducible refine rp_lst ?_
    | with_reducible refine rp_isi ?_
    | with_reducible refine rp_isit ?_
    | with_reducible refine rp_mth ?_
    | with_reducible refine rp_cmp2 ?_
    | with_reducible refine rp_neg ?_
    | with_reducible refine rp_t0 ?_
    | with_reducible refine rp_t1 ?_
    | with_reducible refine rp_lc ?_
    | with_reducible refine rp_lcL ?_
    | with_reducible refine rp_lstL ?_
    | with_reducible refine rp_catL ?_
    | with_reducible refine rp_listL ?_
    | with_reducible refine rp_of ?_
    | with_reducible refine rp_r1 ?_
    | with_reducible refine rp_r2 ?_
    | with_reducible refine rp_enum ?_
    | with_reducible refine rp_zip ?_
    | with_reducible refine op_nil ?_
    | with_reducible refine op_norm (by simp only [List.set_cons_succ, List.set_cons_zero, List.map_cons, List.map_nil, List.cons_append, List.nil_append]; rfl) (op_cons ?_)
    | with_reducible refine op_cons ?_
    | with_reducible refine op_asg ?_
    | with_reducible refine op_ifT ?_
    | with_reducible refine rt_and ?_
    | with_reducible refine rt_or ?_
    | with_reducible refine rt_not ?_
    | with_reducible refine rt_of ?_
    | with_reducible refine op_ret ?_
    | with_reducible refine op_new ?_
    | with_reducible refine op_app (by with_unfolding_all rfl) (by first | exact st_get | exact st_get2) ?_
    | with_reducible refine op_aug (by with_unfolding_all rfl) (by decide) ?_
    | with_reducible refine op_for ?_
    | with_reducible refine op_par ?_
    | with_reducible refine op_tp ?_
    | with_reducible refine op_seti (by with_unfolding_all rfl) ?_
    | with_reducible refine op_expr ?_
    | with_reducible refine op_doc ?_
    | with_reducible refine op_pass ?_
    | with_reducible refine op_retN ?_
    | with_reducible refine fin0 ?_
    | with_reducible refine fin1 ?_
    | with_reducible refine fino1 ?_
    | with_reducible refine fin2 ?_
    | refine ⟨_, _, _, _, rfl, st_get, lt_sz (by first | omega | (simp only [List.length_map, List.length_append, List.length_cons, List.length_nil]; omega)), st_set, ?_⟩
    | refine ⟨_, rfl, rngOk_in (by omega) (by omega), ?_⟩
    | refine ⟨_, src_live, ?_⟩
    | refine ⟨_, bi_live rfl, ?_⟩
    | (refine ⟨_, rfl, fun h => ?_, fun h => ?_⟩ <;> try (first | exact absurd h (by decide) | exact (f_t h).elim | exact (t_f h).elim))
    | refine ⟨_, rfl, ?_⟩
    | refine ⟨_, if_pos (by first | assumption | omega), ?_⟩
    | refine ⟨_, _, rfl, le_sz rfl, ?_⟩
    | refine ⟨_, _, rfl, rfl, ?_⟩
    | refine ⟨_, _, rfl, if_pos (by first | assumption | omega), ?_⟩
    | refine ⟨_, rfl, rfl, ?_⟩
    | refine ⟨rfl, ?_⟩
    | exact rfl
    | dsimp only)
        · have hall := h
          have ec := cut_of ts (a := 1) (by omega)
          rw [ec]
          refine ⟨ts, ts.drop 1, .inr ⟨rfl, rfl⟩, ?_⟩
          unfold zipD
          have hall2 : ∀ t ∈ ts, tabB t = true := List.all_eq_true.mp hall
          refine rp_lcM (ys := ts.zip (ts.drop 1)) (fun p : D × D => D.tup [p.1, p.2]) (fun p => .bl (decide ((strD (fstD p.1)).cps.toList < (strD (fstD p.2)).cps.toList))) (by rw [List.length_zip]; omega) (fun p hp acc => ?_) ?_
          · obtain ⟨p1, p2⟩ := List.of_mem_zip hp
            have a1 := tab_at0 (hall2 _ p1)
            have a2 := tab_at0 (hall2 _ (List.mem_of_mem_drop p2))
            refine ⟨_, rfl, ?_⟩
            repeat' (first
    | with_reducible refine rp_var (by with_unfolding_all rfl) ?_
    | refine ⟨_, a1, ?_⟩
    | refine ⟨_, a2, ?_⟩
    | with_reducible refine rp_lit ?_
    | with_reducible refine rp_glb ?_
    | with_reducible refine rp_bin ?_
    | with_reducible refine rp_cmp ?_
    | with_reducible refine rp_cons ?_
    | with_reducible refine rp_nil ?_
    | with_reducible refine rp_idx ?_
    | with_reducible refine rp_call ?_
    | with_reducible refine rp_bi ?_
    | with_reducible refine rp_fz ?_
    | with_reducible refine rp_and ?_
    | with_reducible refine rp_or ?_
    | with_reducible refine rp_not ?_
    | with_reducible refine rp_ifT ?_
    | with_reducible refine rp_slc ?_
    | with_reducible refine rp_p0 ?_
    | with_reducible refine rp_p1 ?_
    | with_reducible refine rp_tup ?_
    | with_reducible refine rp_lst ?_
    | with_reducible refine rp_isi ?_
    | with_reducible refine rp_isit ?_
    | with_reducible refine rp_mth ?_
    | with_reducible refine rp_cmp2 ?_
    | with_reducible refine rp_neg ?_
    | with_reducible refine rp_t0 ?_
    | with_reducible refine rp_t1 ?_
    | with_reducible refine rp_lc ?_
    | with_reducible refine rp_lcL ?_
    | with_reducible refine rp_lstL ?_
    | with_reducible refine rp_catL ?_
    | with_reducible refine rp_listL ?_
    | with_reducible refine rp_of ?_
    | with_reducible refine rp_r1 ?_
    | with_reducible refine rp_r2 ?_
    | with_reducible refine rp_enum ?_
    | with_reducible refine rp_zip ?_
    | with_reducible refine op_nil ?_
    | with_reducible refine op_norm (by simp only [List.set_cons_succ, List.set_cons_zero, List.map_cons, List.map_nil, List.cons_append, List.nil_append]; rfl) (op_cons ?_)
    | with_reducible refine op_cons ?_
    | with_reducible refine op_asg ?_
    | with_reducible refine op_ifT ?_
    | with_reducible refine rt_and ?_
    | with_reducible refine rt_or ?_
    | with_reducible refine rt_not ?_
    | with_reducible refine rt_of ?_
    | with_reducible refine op_ret ?_
    | with_reducible refine op_new ?_
    | with_reducible refine op_app (by with_unfolding_all rfl) (by first | exact st_get | exact st_get2) ?_
    | with_reducible refine op_aug (by with_unfolding_all rfl) (by decide) ?_
    | with_reducible refine op_for ?_
    | with_reducible refine op_par ?_
    | with_reducible refine op_tp ?_
    | with_reducible refine op_seti (by with_unfolding_all rfl) ?_
    | with_reducible refine op_expr ?_
    | with_reducible refine op_doc ?_
    | with_reducible refine op_pass ?_
    | with_reducible refine op_retN ?_
    | with_reducible refine fin0 ?_
    | with_reducible refine fin1 ?_
    | with_reducible refine fino1 ?_
    | with_reducible refine fin2 ?_
    | refine ⟨_, _, _, _, rfl, st_get, lt_sz (by first | omega | (simp only [List.length_map, List.length_append, List.length_cons, List.length_nil]; omega)), st_set, ?_⟩
    | refine ⟨_, rfl, rngOk_in (by omega) (by omega), ?_⟩
    | refine ⟨_, src_live, ?_⟩
    | refine ⟨_, bi_live rfl, ?_⟩
    | (refine ⟨_, rfl, fun h => ?_, fun h => ?_⟩ <;> try (first | exact absurd h (by decide) | exact (f_t h).elim | exact (t_f h).elim))
    | refine ⟨_, rfl, ?_⟩
    | refine ⟨_, if_pos (by first | assumption | omega), ?_⟩
    | refine ⟨_, _, rfl, le_sz rfl, ?_⟩
    | refine ⟨_, _, rfl, rfl, ?_⟩
    | refine ⟨_, _, rfl, if_pos (by first | assumption | omega), ?_⟩
    | refine ⟨_, rfl, rfl, ?_⟩
    | refine ⟨rfl, ?_⟩
    | exact rfl
    | dsimp only)
          · repeat' (first
    | with_reducible refine rp_var (by with_unfolding_all rfl) ?_
    | refine ⟨_, all_bls _ _, ?_⟩
    | with_reducible refine rp_lit ?_
    | with_reducible refine rp_glb ?_
    | with_reducible refine rp_bin ?_
    | with_reducible refine rp_cmp ?_
    | with_reducible refine rp_cons ?_
    | with_reducible refine rp_nil ?_
    | with_reducible refine rp_idx ?_
    | with_reducible refine rp_call ?_
    | with_reducible refine rp_bi ?_
    | with_reducible refine rp_fz ?_
    | with_reducible refine rp_and ?_
    | with_reducible refine rp_or ?_
    | with_reducible refine rp_not ?_
    | with_reducible refine rp_ifT ?_
    | with_reducible refine rp_slc ?_
    | with_reducible refine rp_p0 ?_
    | with_reducible refine rp_p1 ?_
    | with_reducible refine rp_tup ?_
    | with_reducible refine rp_lst ?_
    | with_reducible refine rp_isi ?_
    | with_reducible refine rp_isit ?_
    | with_reducible refine rp_mth ?_
    | with_reducible refine rp_cmp2 ?_
    | with_reducible refine rp_neg ?_
    | with_reducible refine rp_t0 ?_
    | with_reducible refine rp_t1 ?_
    | with_reducible refine rp_lc ?_
    | with_reducible refine rp_lcL ?_
    | with_reducible refine rp_lstL ?_
    | with_reducible refine rp_catL ?_
    | with_reducible refine rp_listL ?_
    | with_reducible refine rp_of ?_
    | with_reducible refine rp_r1 ?_
    | with_reducible refine rp_r2 ?_
    | with_reducible refine rp_enum ?_
    | with_reducible refine rp_zip ?_
    | with_reducible refine op_nil ?_
    | with_reducible refine op_norm (by simp only [List.set_cons_succ, List.set_cons_zero, List.map_cons, List.map_nil, List.cons_append, List.nil_append]; rfl) (op_cons ?_)
    | with_reducible refine op_cons ?_
    | with_reducible refine op_asg ?_
    | with_reducible refine op_ifT ?_
    | with_reducible refine rt_and ?_
    | with_reducible refine rt_or ?_
    | with_reducible refine rt_not ?_
    | with_reducible refine rt_of ?_
    | with_reducible refine op_ret ?_
    | with_reducible refine op_new ?_
    | with_reducible refine op_app (by with_unfolding_all rfl) (by first | exact st_get | exact st_get2) ?_
    | with_reducible refine op_aug (by with_unfolding_all rfl) (by decide) ?_
    | with_reducible refine op_for ?_
    | with_reducible refine op_par ?_
    | with_reducible refine op_tp ?_
    | with_reducible refine op_seti (by with_unfolding_all rfl) ?_
    | with_reducible refine op_expr ?_
    | with_reducible refine op_doc ?_
    | with_reducible refine op_pass ?_
    | with_reducible refine op_retN ?_
    | with_reducible refine fin0 ?_
    | with_reducible refine fin1 ?_
    | with_reducible refine fino1 ?_
    | with_reducible refine fin2 ?_
    | refine ⟨_, _, _, _, rfl, st_get, lt_sz (by first | omega | (simp only [List.length_map, List.length_append, List.length_cons, List.length_nil]; omega)), st_set, ?_⟩
    | refine ⟨_, rfl, rngOk_in (by omega) (by omega), ?_⟩
    | refine ⟨_, src_live, ?_⟩
    | refine ⟨_, bi_live rfl, ?_⟩
    | (refine ⟨_, rfl, fun h => ?_, fun h => ?_⟩ <;> try (first | exact absurd h (by decide) | exact (f_t h).elim | exact (t_f h).elim))
    | refine ⟨_, rfl, ?_⟩
    | refine ⟨_, if_pos (by first | assumption | omega), ?_⟩
    | refine ⟨_, _, rfl, le_sz rfl, ?_⟩
    | refine ⟨_, _, rfl, rfl, ?_⟩
    | refine ⟨_, _, rfl, if_pos (by first | assumption | omega), ?_⟩
    | refine ⟨_, rfl, rfl, ?_⟩
    | refine ⟨rfl, ?_⟩
    | exact rfl
    | dsimp only)
            rw [rises_zip]
            simp [groundB, *]
        · simp [groundB, *]
    · have h2 : ¬ (ts.length ≤ 4) := by have := of_decide_eq_false h; omega
      simp [groundB, h2]
    · rename_i h'
      have h2 : ¬ (1 ≤ ts.length) := by have := of_decide_eq_false h'; omega
      simp [groundB, h2]
  | _ => repeat' (first
    | with_reducible refine rp_var (by with_unfolding_all rfl) ?_
    | with_reducible refine rp_lit ?_
    | with_reducible refine rp_glb ?_
    | with_reducible refine rp_bin ?_
    | with_reducible refine rp_cmp ?_
    | with_reducible refine rp_cons ?_
    | with_reducible refine rp_nil ?_
    | with_reducible refine rp_idx ?_
    | with_reducible refine rp_call ?_
    | with_reducible refine rp_bi ?_
    | with_reducible refine rp_fz ?_
    | with_reducible refine rp_and ?_
    | with_reducible refine rp_or ?_
    | with_reducible refine rp_not ?_
    | with_reducible refine rp_ifT ?_
    | with_reducible refine rp_slc ?_
    | with_reducible refine rp_p0 ?_
    | with_reducible refine rp_p1 ?_
    | with_reducible refine rp_tup ?_
    | with_reducible refine rp_lst ?_
    | with_reducible refine rp_isi ?_
    | with_reducible refine rp_isit ?_
    | with_reducible refine rp_mth ?_
    | with_reducible refine rp_cmp2 ?_
    | with_reducible refine rp_neg ?_
    | with_reducible refine rp_t0 ?_
    | with_reducible refine rp_t1 ?_
    | with_reducible refine rp_lc ?_
    | with_reducible refine rp_lcL ?_
    | with_reducible refine rp_lstL ?_
    | with_reducible refine rp_catL ?_
    | with_reducible refine rp_listL ?_
    | with_reducible refine rp_of ?_
    | with_reducible refine rp_r1 ?_
    | with_reducible refine rp_r2 ?_
    | with_reducible refine rp_enum ?_
    | with_reducible refine rp_zip ?_
    | with_reducible refine op_nil ?_
    | with_reducible refine op_norm (by simp only [List.set_cons_succ, List.set_cons_zero, List.map_cons, List.map_nil, List.cons_append, List.nil_append]; rfl) (op_cons ?_)
    | with_reducible refine op_cons ?_
    | with_reducible refine op_asg ?_
    | with_reducible refine op_ifT ?_
    | with_reducible refine rt_and ?_
    | with_reducible refine rt_or ?_
    | with_reducible refine rt_not ?_
    | with_reducible refine rt_of ?_
    | with_reducible refine op_ret ?_
    | with_reducible refine op_new ?_
    | with_reducible refine op_app (by with_unfolding_all rfl) (by first | exact st_get | exact st_get2) ?_
    | with_reducible refine op_aug (by with_unfolding_all rfl) (by decide) ?_
    | with_reducible refine op_for ?_
    | with_reducible refine op_par ?_
    | with_reducible refine op_tp ?_
    | with_reducible refine op_seti (by with_unfolding_all rfl) ?_
    | with_reducible refine op_expr ?_
    | with_reducible refine op_doc ?_
    | with_reducible refine op_pass ?_
    | with_reducible refine op_retN ?_
    | with_reducible refine fin0 ?_
    | with_reducible refine fin1 ?_
    | with_reducible refine fino1 ?_
    | with_reducible refine fin2 ?_
    | refine ⟨_, _, _, _, rfl, st_get, lt_sz (by first | omega | (simp only [List.length_map, List.length_append, List.length_cons, List.length_nil]; omega)), st_set, ?_⟩
    | refine ⟨_, rfl, rngOk_in (by omega) (by omega), ?_⟩
    | refine ⟨_, src_live, ?_⟩
    | refine ⟨_, bi_live rfl, ?_⟩
    | (refine ⟨_, rfl, fun h => ?_, fun h => ?_⟩ <;> try (first | exact absurd h (by decide) | exact (f_t h).elim | exact (t_f h).elim))
    | refine ⟨_, rfl, ?_⟩
    | refine ⟨_, if_pos (by first | assumption | omega), ?_⟩
    | refine ⟨_, _, rfl, le_sz rfl, ?_⟩
    | refine ⟨_, _, rfl, rfl, ?_⟩
    | refine ⟨_, _, rfl, if_pos (by first | assumption | omega), ?_⟩
    | refine ⟨_, rfl, rfl, ?_⟩
    | refine ⟨rfl, ?_⟩
    | exact rfl
    | dsimp only)
/-- _law_from(thing, least, top): 0 thing, 1 least, 2 top -/
def f__law_from : Fn := ⟨3, 3,
  [(.ret (.and (.isi (.var 0) .int) (.and (.not (.isi (.var 0) .bool)) (.and (.cmp .le (.var 1) (.var 0)) (.cmp .le (.var 0) (.var 2))))))]⟩
/-- _law_is_name(thing): 0 thing, 1 barred, 2 sign -/
def f__law_is_name : Fn := ⟨1, 3,
  [(.asg (.v 1) (.lst [(.lit (D.str "rows")), (.lit (D.str "view")), (.lit (D.str "where")), (.lit (D.str "keep")), (.lit (D.str "named")), (.lit (D.str "pairs")), (.lit (D.str "both")), (.lit (D.str "less")), (.lit (D.str "count")), (.lit (D.str "seal")), (.lit (D.str "and")), (.lit (D.str "or"))])),
  (.asg (.v 1) (.bin .add (.var 1) (.lst [(.lit (D.str "not")), (.lit (D.str "mine")), (.lit (D.str "empty")), (.lit (D.str "loud")), (.lit (D.str "yes")), (.lit (D.str "has"))]))),
  (.ife (.or (.not (.isi (.var 0) .str)) (.or (.cmp .isin (.var 0) (.var 1)) (.cmp .gt (.bi .len [(.var 0)]) (.lit (D.int 8))))) [(.ret (.lit (D.bl false)))] []),
  (.ret (.and (.cmp .ne (.var 0) (.lit (D.str ""))) (.bi .all [(.lc (.v 2) (.of (.var 0)) [] (.cmp .isin (.var 2) (.lit (D.str "abcdefghijklmnopqrstuvwxyz"))))])))]⟩
/-- _law_is_column(thing): 0 thing -/
def f__law_is_column (i__law_from i__law_is_name : Nat) : Fn := ⟨1, 1,
  [(.ife (.or (.not (.isi (.var 0) .tuple)) (.cmp .ne (.bi .len [(.var 0)]) (.lit (D.int 3)))) [(.ret (.lit (D.bl false)))] []),
  (.ret (.and (.call i__law_is_name [(.idx (.var 0) (.lit (D.int 0)))]) (.and (.call i__law_from [(.idx (.var 0) (.lit (D.int 1))), (.lit (D.int 1)), (.lit (D.int 9))]) (.isi (.idx (.var 0) (.lit (D.int 2))) .bool))))]⟩
/-- _law_is_table(thing): 0 thing, 1 names, 2 one -/
def f__law_is_table (i__law_from i__law_is_name i__law_is_column : Nat) : Fn := ⟨1, 3,
  [(.ife (.or (.not (.isi (.var 0) .tuple)) (.or (.cmp .ne (.bi .len [(.var 0)]) (.lit (D.int 3))) (.not (.isi (.idx (.var 0) (.lit (D.int 2))) .tuple)))) [(.ret (.lit (D.bl false)))] []),
  (.ife (.or (.not (.call i__law_is_name [(.idx (.var 0) (.lit (D.int 0)))])) (.not (.call i__law_from [(.bi .len [(.idx (.var 0) (.lit (D.int 2)))]), (.lit (D.int 1)), (.lit (D.int 4))]))) [(.ret (.lit (D.bl false)))] []),
  (.ife (.or (.not (.bi .all [(.lc (.v 2) (.of (.idx (.var 0) (.lit (D.int 2)))) [] (.call i__law_is_column [(.var 2)]))])) (.not (.call i__law_from [(.idx (.var 0) (.lit (D.int 1))), (.lit (D.int 0)), (.bi .len [(.idx (.var 0) (.lit (D.int 2)))])]))) [(.ret (.lit (D.bl false)))] []),
  (.asg (.v 1) (.lc (.v 2) (.of (.idx (.var 0) (.lit (D.int 2)))) [] (.idx (.var 2) (.lit (D.int 0))))),
  (.ret (.and (.cmp .eq (.fz .lenset [(.var 1)]) (.bi .len [(.var 1)])) (.not (.bi .any [(.lc (.v 2) (.of (.slc (.idx (.var 0) (.lit (D.int 2))) [] [(.idx (.var 0) (.lit (D.int 1)))])) [] (.idx (.var 2) (.lit (D.int 2))))]))))]⟩
/-- _law_is_ground(thing): 0 thing, 1 names, 2 one -/
def f__law_is_ground (i__law_from i__law_is_table : Nat) : Fn := ⟨1, 3,
  [(.ife (.or (.not (.isi (.var 0) .tuple)) (.not (.call i__law_from [(.bi .len [(.var 0)]), (.lit (D.int 1)), (.lit (D.int 4))]))) [(.ret (.lit (D.bl false)))] []),
  (.ife (.not (.bi .all [(.lc (.v 2) (.of (.var 0)) [] (.call i__law_is_table [(.var 2)]))])) [(.ret (.lit (D.bl false)))] []),
  (.asg (.v 1) (.lc (.v 2) (.of (.var 0)) [] (.idx (.var 2) (.lit (D.int 0))))),
  (.ret (.cmp .eq (.fz .sortset [(.var 1)]) (.var 1)))]⟩
theorem lfrom_ok {T : List Fn} {i : Nat} (hT : T[i]? = some f__law_from) (n : Nat) (d : D) (lo hi : Int) (S : St') : RP (FT T (n + 1) i [.t d, .t (.int lo), .t (.int hi)] S) (Is S (.bl (fromB d lo hi))) noE := by
  refine rp_fn hT rfl rfl ?_
  simp only [f__law_from, pad]
  cases d <;> repeat' (first
    | with_reducible refine rp_var (by with_unfolding_all rfl) ?_
    | with_reducible refine rp_lit ?_
    | with_reducible refine rp_glb ?_
    | with_reducible refine rp_bin ?_
    | with_reducible refine rp_cmp ?_
    | with_reducible refine rp_cons ?_
    | with_reducible refine rp_nil ?_
    | with_reducible refine rp_idx ?_
    | with_reducible refine rp_call ?_
    | with_reducible refine rp_bi ?_
    | with_reducible refine rp_fz ?_
    | with_reducible refine rp_and ?_
    | with_reducible refine rp_or ?_
    | with_reducible refine rp_not ?_
    | with_reducible refine rp_ifT ?_
    | with_reducible refine rp_slc ?_
    | with_reducible refine rp_p0 ?_
    | with_reducible refine rp_p1 ?_
    | with_reducible refine rp_tup ?_
    | with_reducible refine rp_lst ?_
    | with_reducible refine rp_isi ?_
    | with_reducible refine rp_isit ?_
    | with_reducible refine rp_mth ?_
    | with_reducible refine rp_cmp2 ?_
    | with_reducible refine rp_neg ?_
    | with_reducible refine rp_t0 ?_
    | with_reducible refine rp_t1 ?_
    | with_reducible refine rp_lc ?_
    | with_reducible refine rp_lcL ?_
    | with_reducible refine rp_lstL ?_
    | with_reducible refine rp_catL ?_
    | with_reducible refine rp_listL ?_
    | with_reducible refine rp_of ?_
    | with_reducible refine rp_r1 ?_
    | with_reducible refine rp_r2 ?_
    | with_reducible refine rp_enum ?_
    | with_reducible refine rp_zip ?_
    | with_reducible refine op_nil ?_
    | with_reducible refine op_norm (by simp only [List.set_cons_succ, List.set_cons_zero, List.map_cons, List.map_nil, List.cons_append, List.nil_append]; rfl) (op_cons ?_)
    | with_reducible refine op_cons ?_
    | with_reducible refine op_asg ?_
    | with_reducible refine op_ifT ?_
    | with_reducible refine rt_and ?_
    | with_reducible refine rt_or ?_
    | with_reducible refine rt_not ?_
    | with_reducible refine rt_of ?_
    | with_reducible refine op_ret ?_
    | with_reducible refine op_new ?_
    | with_reducible refine op_app (by with_unfolding_all rfl) (by first | exact st_get | exact st_get2) ?_
    | with_reducible refine op_aug (by with_unfolding_all rfl) (by decide) ?_
    | with_reducible refine op_for ?_
    | with_reducible refine op_par ?_
    | with_reducible refine op_tp ?_
    | with_reducible refine op_seti (by with_unfolding_all rfl) ?_
    | with_reducible refine op_expr ?_
    | with_reducible refine op_doc ?_
    | with_reducible refine op_pass ?_
    | with_reducible refine op_retN ?_
    | with_reducible refine fin0 ?_
    | with_reducible refine fin1 ?_
    | with_reducible refine fino1 ?_
    | with_reducible refine fin2 ?_
    | refine ⟨_, _, _, _, rfl, st_get, lt_sz (by first | omega | (simp only [List.length_map, List.length_append, List.length_cons, List.length_nil]; omega)), st_set, ?_⟩
    | refine ⟨_, rfl, rngOk_in (by omega) (by omega), ?_⟩
    | refine ⟨_, src_live, ?_⟩
    | refine ⟨_, bi_live rfl, ?_⟩
    | (refine ⟨_, rfl, fun h => ?_, fun h => ?_⟩ <;> try (first | exact absurd h (by decide) | exact (f_t h).elim | exact (t_f h).elim))
    | refine ⟨_, rfl, ?_⟩
    | refine ⟨_, if_pos (by first | assumption | omega), ?_⟩
    | refine ⟨_, _, rfl, le_sz rfl, ?_⟩
    | refine ⟨_, _, rfl, rfl, ?_⟩
    | refine ⟨_, _, rfl, if_pos (by first | assumption | omega), ?_⟩
    | refine ⟨_, rfl, rfl, ?_⟩
    | refine ⟨rfl, ?_⟩
    | exact rfl
    | dsimp only)
  · simp [fromB, *]
  · simp [fromB, *]
theorem barsum : binD .add (.lst ((barred.take 12).map .str)) (.lst ((barred.drop 12).map .str)) = some (.lst (barred.map .str)) := by
  simp only [binD]
  rw [if_pos (le_sz rfl), ← List.map_append, List.take_append_drop]
theorem str_empty (x : Str) : deq (.str x) (.str "") = decide (x.length = 0) := by
  rw [deq]
  by_cases h : x.length = 0
  · have : x = "" := str_ext (by
      rw [len_list] at h
      rw [List.length_eq_zero_iff.mp h]
      rfl)
    subst this
    decide +kernel
  · have : ¬ x = "" := fun e => h (by rw [e]; rfl)
    simp [h, this]
theorem lis_name_ok {T : List Fn} {i b : Nat} (hT : T[i]? = some f__law_is_name) (n : Nat) {d : D} (hd : Nc b d) (hb : b ≤ 1000) (S : St') : RP (FT T (n + 1) i [.t d] S) (Is S (.bl (nameB d))) noE := by
  refine rp_fn hT rfl rfl ?_
  simp only [f__law_is_name, pad]
  cases hd with
  | @str x ho hl =>
    have e1 : biD .len [.str x] = some (.int x.length) := if_pos (le_sz' (by omega))
    have e2 : cmpD .isin (.str x) (.lst (barred.map .str)) = some (decide (x ∈ barred)) := in_strs ho bar_ok
    have e4 : cmpD .ne (.str x) (.str "") = some (!decide (x.length = 0)) := by simp only [cmpD, scalD, Bool.true_or, if_true, str_empty]
    repeat' (first
    | with_reducible refine rp_var (by with_unfolding_all rfl) ?_
    | refine ⟨_, e1, ?_⟩
    | refine ⟨_, barsum, ?_⟩
    | refine ⟨_, e2, ?_⟩
    | with_reducible refine rp_lit ?_
    | with_reducible refine rp_glb ?_
    | with_reducible refine rp_bin ?_
    | with_reducible refine rp_cmp ?_
    | with_reducible refine rp_cons ?_
    | with_reducible refine rp_nil ?_
    | with_reducible refine rp_idx ?_
    | with_reducible refine rp_call ?_
    | with_reducible refine rp_bi ?_
    | with_reducible refine rp_fz ?_
    | with_reducible refine rp_and ?_
    | with_reducible refine rp_or ?_
    | with_reducible refine rp_not ?_
    | with_reducible refine rp_ifT ?_
    | with_reducible refine rp_slc ?_
    | with_reducible refine rp_p0 ?_
    | with_reducible refine rp_p1 ?_
    | with_reducible refine rp_tup ?_
    | with_reducible refine rp_lst ?_
    | with_reducible refine rp_isi ?_
    | with_reducible refine rp_isit ?_
    | with_reducible refine rp_mth ?_
    | with_reducible refine rp_cmp2 ?_
    | with_reducible refine rp_neg ?_
    | with_reducible refine rp_t0 ?_
    | with_reducible refine rp_t1 ?_
    | with_reducible refine rp_lc ?_
    | with_reducible refine rp_lcL ?_
    | with_reducible refine rp_lstL ?_
    | with_reducible refine rp_catL ?_
    | with_reducible refine rp_listL ?_
    | with_reducible refine rp_of ?_
    | with_reducible refine rp_r1 ?_
    | with_reducible refine rp_r2 ?_
    | with_reducible refine rp_enum ?_
    | with_reducible refine rp_zip ?_
    | with_reducible refine op_nil ?_
    | with_reducible refine op_norm (by simp only [List.set_cons_succ, List.set_cons_zero, List.map_cons, List.map_nil, List.cons_append, List.nil_append]; rfl) (op_cons ?_)
    | with_reducible refine op_cons ?_
    | with_reducible refine op_asg ?_
    | with_reducible refine op_ifT ?_
    | with_reducible refine rt_and ?_
    | with_reducible refine rt_or ?_
    | with_reducible refine rt_not ?_
    | with_reducible refine rt_of ?_
    | with_reducible refine op_ret ?_
    | with_reducible refine op_new ?_
    | with_reducible refine op_app (by with_unfolding_all rfl) (by first | exact st_get | exact st_get2) ?_
    | with_reducible refine op_aug (by with_unfolding_all rfl) (by decide) ?_
    | with_reducible refine op_for ?_
    | with_reducible refine op_par ?_
    | with_reducible refine op_tp ?_
    | with_reducible refine op_seti (by with_unfolding_all rfl) ?_
    | with_reducible refine op_expr ?_
    | with_reducible refine op_doc ?_
    | with_reducible refine op_pass ?_
    | with_reducible refine op_retN ?_
    | with_reducible refine fin0 ?_
    | with_reducible refine fin1 ?_
    | with_reducible refine fino1 ?_
    | with_reducible refine fin2 ?_
    | refine ⟨_, _, _, _, rfl, st_get, lt_sz (by first | omega | (simp only [List.length_map, List.length_append, List.length_cons, List.length_nil]; omega)), st_set, ?_⟩
    | refine ⟨_, rfl, rngOk_in (by omega) (by omega), ?_⟩
    | refine ⟨_, src_live, ?_⟩
    | refine ⟨_, bi_live rfl, ?_⟩
    | (refine ⟨_, rfl, fun h => ?_, fun h => ?_⟩ <;> try (first | exact absurd h (by decide) | exact (f_t h).elim | exact (t_f h).elim))
    | refine ⟨_, rfl, ?_⟩
    | refine ⟨_, if_pos (by first | assumption | omega), ?_⟩
    | refine ⟨_, _, rfl, le_sz rfl, ?_⟩
    | refine ⟨_, _, rfl, rfl, ?_⟩
    | refine ⟨_, _, rfl, if_pos (by first | assumption | omega), ?_⟩
    | refine ⟨_, rfl, rfl, ?_⟩
    | refine ⟨rfl, ?_⟩
    | exact rfl
    | dsimp only)
    · simp only [nameB, nameS, h]
      simp
    · have := of_decide_eq_true h
      simp [nameB, nameS]
      omega
    · rename_i h1 h2
      have h2 := of_decide_eq_false h2
      refine rp_lcM (fun c => D.str ⟨#[c]⟩) (fun c => .bl (letB c)) (by rw [← len_list]; omega) (fun c hc acc => ?_) ?_
      · have e3 : cmpD .isin (.str ⟨#[c]⟩) (.str LTR) = some (letB c) := by
          simp only [cmpD, inD, strIn_ltr]
        refine ⟨_, rfl, ?_⟩
        repeat' (first
    | with_reducible refine rp_var (by with_unfolding_all rfl) ?_
    | refine ⟨_, e3, ?_⟩
    | with_reducible refine rp_lit ?_
    | with_reducible refine rp_glb ?_
    | with_reducible refine rp_bin ?_
    | with_reducible refine rp_cmp ?_
    | with_reducible refine rp_cons ?_
    | with_reducible refine rp_nil ?_
    | with_reducible refine rp_idx ?_
    | with_reducible refine rp_call ?_
    | with_reducible refine rp_bi ?_
    | with_reducible refine rp_fz ?_
    | with_reducible refine rp_and ?_
    | with_reducible refine rp_or ?_
    | with_reducible refine rp_not ?_
    | with_reducible refine rp_ifT ?_
    | with_reducible refine rp_slc ?_
    | with_reducible refine rp_p0 ?_
    | with_reducible refine rp_p1 ?_
    | with_reducible refine rp_tup ?_
    | with_reducible refine rp_lst ?_
    | with_reducible refine rp_isi ?_
    | with_reducible refine rp_isit ?_
    | with_reducible refine rp_mth ?_
    | with_reducible refine rp_cmp2 ?_
    | with_reducible refine rp_neg ?_
    | with_reducible refine rp_t0 ?_
    | with_reducible refine rp_t1 ?_
    | with_reducible refine rp_lc ?_
    | with_reducible refine rp_lcL ?_
    | with_reducible refine rp_lstL ?_
    | with_reducible refine rp_catL ?_
    | with_reducible refine rp_listL ?_
    | with_reducible refine rp_of ?_
    | with_reducible refine rp_r1 ?_
    | with_reducible refine rp_r2 ?_
    | with_reducible refine rp_enum ?_
    | with_reducible refine rp_zip ?_
    | with_reducible refine op_nil ?_
    | with_reducible refine op_norm (by simp only [List.set_cons_succ, List.set_cons_zero, List.map_cons, List.map_nil, List.cons_append, List.nil_append]; rfl) (op_cons ?_)
    | with_reducible refine op_cons ?_
    | with_reducible refine op_asg ?_
    | with_reducible refine op_ifT ?_
    | with_reducible refine rt_and ?_
    | with_reducible refine rt_or ?_
    | with_reducible refine rt_not ?_
    | with_reducible refine rt_of ?_
    | with_reducible refine op_ret ?_
    | with_reducible refine op_new ?_
    | with_reducible refine op_app (by with_unfolding_all rfl) (by first | exact st_get | exact st_get2) ?_
    | with_reducible refine op_aug (by with_unfolding_all rfl) (by decide) ?_
    | with_reducible refine op_for ?_
    | with_reducible refine op_par ?_
    | with_reducible refine op_tp ?_
    | with_reducible refine op_seti (by with_unfolding_all rfl) ?_
    | with_reducible refine op_expr ?_
    | with_reducible refine op_doc ?_
    | with_reducible refine op_pass ?_
    | with_reducible refine op_retN ?_
    | with_reducible refine fin0 ?_
    | with_reducible refine fin1 ?_
    | with_reducible refine fino1 ?_
    | with_reducible refine fin2 ?_
    | refine ⟨_, _, _, _, rfl, st_get, lt_sz (by first | omega | (simp only [List.length_map, List.length_append, List.length_cons, List.length_nil]; omega)), st_set, ?_⟩
    | refine ⟨_, rfl, rngOk_in (by omega) (by omega), ?_⟩
    | refine ⟨_, src_live, ?_⟩
    | refine ⟨_, bi_live rfl, ?_⟩
    | (refine ⟨_, rfl, fun h => ?_, fun h => ?_⟩ <;> try (first | exact absurd h (by decide) | exact (f_t h).elim | exact (t_f h).elim))
    | refine ⟨_, rfl, ?_⟩
    | refine ⟨_, if_pos (by first | assumption | omega), ?_⟩
    | refine ⟨_, _, rfl, le_sz rfl, ?_⟩
    | refine ⟨_, _, rfl, rfl, ?_⟩
    | refine ⟨_, _, rfl, if_pos (by first | assumption | omega), ?_⟩
    | refine ⟨_, rfl, rfl, ?_⟩
    | refine ⟨rfl, ?_⟩
    | exact rfl
    | dsimp only)
      · repeat' (first
    | with_reducible refine rp_var (by with_unfolding_all rfl) ?_
    | refine ⟨_, all_bls letB x.cps.toList, ?_⟩
    | with_reducible refine rp_lit ?_
    | with_reducible refine rp_glb ?_
    | with_reducible refine rp_bin ?_
    | with_reducible refine rp_cmp ?_
    | with_reducible refine rp_cons ?_
    | with_reducible refine rp_nil ?_
    | with_reducible refine rp_idx ?_
    | with_reducible refine rp_call ?_
    | with_reducible refine rp_bi ?_
    | with_reducible refine rp_fz ?_
    | with_reducible refine rp_and ?_
    | with_reducible refine rp_or ?_
    | with_reducible refine rp_not ?_
    | with_reducible refine rp_ifT ?_
    | with_reducible refine rp_slc ?_
    | with_reducible refine rp_p0 ?_
    | with_reducible refine rp_p1 ?_
    | with_reducible refine rp_tup ?_
    | with_reducible refine rp_lst ?_
    | with_reducible refine rp_isi ?_
    | with_reducible refine rp_isit ?_
    | with_reducible refine rp_mth ?_
    | with_reducible refine rp_cmp2 ?_
    | with_reducible refine rp_neg ?_
    | with_reducible refine rp_t0 ?_
    | with_reducible refine rp_t1 ?_
    | with_reducible refine rp_lc ?_
    | with_reducible refine rp_lcL ?_
    | with_reducible refine rp_lstL ?_
    | with_reducible refine rp_catL ?_
    | with_reducible refine rp_listL ?_
    | with_reducible refine rp_of ?_
    | with_reducible refine rp_r1 ?_
    | with_reducible refine rp_r2 ?_
    | with_reducible refine rp_enum ?_
    | with_reducible refine rp_zip ?_
    | with_reducible refine op_nil ?_
    | with_reducible refine op_norm (by simp only [List.set_cons_succ, List.set_cons_zero, List.map_cons, List.map_nil, List.cons_append, List.nil_append]; rfl) (op_cons ?_)
    | with_reducible refine op_cons ?_
    | with_reducible refine op_asg ?_
    | with_reducible refine op_ifT ?_
    | with_reducible refine rt_and ?_
    | with_reducible refine rt_or ?_
    | with_reducible refine rt_not ?_
    | with_reducible refine rt_of ?_
    | with_reducible refine op_ret ?_
    | with_reducible refine op_new ?_
    | with_reducible refine op_app (by with_unfolding_all rfl) (by first | exact st_get | exact st_get2) ?_
    | with_reducible refine op_aug (by with_unfolding_all rfl) (by decide) ?_
    | with_reducible refine op_for ?_
    | with_reducible refine op_par ?_
    | with_reducible refine op_tp ?_
    | with_reducible refine op_seti (by with_unfolding_all rfl) ?_
    | with_reducible refine op_expr ?_
    | with_reducible refine op_doc ?_
    | with_reducible refine op_pass ?_
    | with_reducible refine op_retN ?_
    | with_reducible refine fin0 ?_
    | with_reducible refine fin1 ?_
    | with_reducible refine fino1 ?_
    | with_reducible refine fin2 ?_
    | refine ⟨_, _, _, _, rfl, st_get, lt_sz (by first | omega | (simp only [List.length_map, List.length_append, List.length_cons, List.length_nil]; omega)), st_set, ?_⟩
    | refine ⟨_, rfl, rngOk_in (by omega) (by omega), ?_⟩
    | refine ⟨_, src_live, ?_⟩
    | refine ⟨_, bi_live rfl, ?_⟩
    | (refine ⟨_, rfl, fun h => ?_, fun h => ?_⟩ <;> try (first | exact absurd h (by decide) | exact (f_t h).elim | exact (t_f h).elim))
    | refine ⟨_, rfl, ?_⟩
    | refine ⟨_, if_pos (by first | assumption | omega), ?_⟩
    | refine ⟨_, _, rfl, le_sz rfl, ?_⟩
    | refine ⟨_, _, rfl, rfl, ?_⟩
    | refine ⟨_, _, rfl, if_pos (by first | assumption | omega), ?_⟩
    | refine ⟨_, rfl, rfl, ?_⟩
    | refine ⟨rfl, ?_⟩
    | exact rfl
    | dsimp only)
        have h : (!deq (.str x) (.str "")) = true := h
        rw [str_empty] at h
        simp only [Bool.not_eq_true', decide_eq_false_iff_not] at h
        have h3 : 1 ≤ x.length := by omega
        have h4 : x.length ≤ 8 := by omega
        simp only [nameB, nameS, h1, h3, h4, decide_true, Bool.true_and, Bool.not_false]
    · have h' : (!deq (.str x) (.str "")) = false := h
      rw [h]
      rw [str_empty] at h'
      simp only [Bool.not_eq_false', decide_eq_true_eq] at h'
      simp [nameB, nameS, h']
  | _ => repeat' (first
    | with_reducible refine rp_var (by with_unfolding_all rfl) ?_
    | refine ⟨_, barsum, ?_⟩
    | with_reducible refine rp_lit ?_
    | with_reducible refine rp_glb ?_
    | with_reducible refine rp_bin ?_
    | with_reducible refine rp_cmp ?_
    | with_reducible refine rp_cons ?_
    | with_reducible refine rp_nil ?_
    | with_reducible refine rp_idx ?_
    | with_reducible refine rp_call ?_
    | with_reducible refine rp_bi ?_
    | with_reducible refine rp_fz ?_
    | with_reducible refine rp_and ?_
    | with_reducible refine rp_or ?_
    | with_reducible refine rp_not ?_
    | with_reducible refine rp_ifT ?_
    | with_reducible refine rp_slc ?_
    | with_reducible refine rp_p0 ?_
    | with_reducible refine rp_p1 ?_
    | with_reducible refine rp_tup ?_
    | with_reducible refine rp_lst ?_
    | with_reducible refine rp_isi ?_
    | with_reducible refine rp_isit ?_
    | with_reducible refine rp_mth ?_
    | with_reducible refine rp_cmp2 ?_
    | with_reducible refine rp_neg ?_
    | with_reducible refine rp_t0 ?_
    | with_reducible refine rp_t1 ?_
    | with_reducible refine rp_lc ?_
    | with_reducible refine rp_lcL ?_
    | with_reducible refine rp_lstL ?_
    | with_reducible refine rp_catL ?_
    | with_reducible refine rp_listL ?_
    | with_reducible refine rp_of ?_
    | with_reducible refine rp_r1 ?_
    | with_reducible refine rp_r2 ?_
    | with_reducible refine rp_enum ?_
    | with_reducible refine rp_zip ?_
    | with_reducible refine op_nil ?_
    | with_reducible refine op_norm (by simp only [List.set_cons_succ, List.set_cons_zero, List.map_cons, List.map_nil, List.cons_append, List.nil_append]; rfl) (op_cons ?_)
    | with_reducible refine op_cons ?_
    | with_reducible refine op_asg ?_
    | with_reducible refine op_ifT ?_
    | with_reducible refine rt_and ?_
    | with_reducible refine rt_or ?_
    | with_reducible refine rt_not ?_
    | with_reducible refine rt_of ?_
    | with_reducible refine op_ret ?_
    | with_reducible refine op_new ?_
    | with_reducible refine op_app (by with_unfolding_all rfl) (by first | exact st_get | exact st_get2) ?_
    | with_reducible refine op_aug (by with_unfolding_all rfl) (by decide) ?_
    | with_reducible refine op_for ?_
    | with_reducible refine op_par ?_
    | with_reducible refine op_tp ?_
    | with_reducible refine op_seti (by with_unfolding_all rfl) ?_
    | with_reducible refine op_expr ?_
    | with_reducible refine op_doc ?_
    | with_reducible refine op_pass ?_
    | with_reducible refine op_retN ?_
    | with_reducible refine fin0 ?_
    | with_reducible refine fin1 ?_
    | with_reducible refine fino1 ?_
    | with_reducible refine fin2 ?_
    | refine ⟨_, _, _, _, rfl, st_get, lt_sz (by first | omega | (simp only [List.length_map, List.length_append, List.length_cons, List.length_nil]; omega)), st_set, ?_⟩
    | refine ⟨_, rfl, rngOk_in (by omega) (by omega), ?_⟩
    | refine ⟨_, src_live, ?_⟩
    | refine ⟨_, bi_live rfl, ?_⟩
    | (refine ⟨_, rfl, fun h => ?_, fun h => ?_⟩ <;> try (first | exact absurd h (by decide) | exact (f_t h).elim | exact (t_f h).elim))
    | refine ⟨_, rfl, ?_⟩
    | refine ⟨_, if_pos (by first | assumption | omega), ?_⟩
    | refine ⟨_, _, rfl, le_sz rfl, ?_⟩
    | refine ⟨_, _, rfl, rfl, ?_⟩
    | refine ⟨_, _, rfl, if_pos (by first | assumption | omega), ?_⟩
    | refine ⟨_, rfl, rfl, ?_⟩
    | refine ⟨rfl, ?_⟩
    | exact rfl
    | dsimp only)
theorem lis_column_ok {T : List Fn} {i iF iN b : Nat} (hT : T[i]? = some (f__law_is_column iF iN)) (hF : T[iF]? = some f__law_from) (hN : T[iN]? = some f__law_is_name) (n : Nat) {d : D} (hd : Nc b d) (hb : b ≤ 1000) (S : St') : RP (FT T (n + 2) i [.t d] S) (Is S (.bl (colB d))) noE := by
  refine rp_fn hT rfl rfl ?_
  simp only [f__law_is_column, pad]
  cases hd with
  | @tup xs hx hl =>
    repeat' (first
    | with_reducible refine rp_var (by with_unfolding_all rfl) ?_
    | with_reducible refine rp_lit ?_
    | with_reducible refine rp_glb ?_
    | with_reducible refine rp_bin ?_
    | with_reducible refine rp_cmp ?_
    | with_reducible refine rp_cons ?_
    | with_reducible refine rp_nil ?_
    | with_reducible refine rp_idx ?_
    | with_reducible refine rp_call ?_
    | with_reducible refine rp_bi ?_
    | with_reducible refine rp_fz ?_
    | with_reducible refine rp_and ?_
    | with_reducible refine rp_or ?_
    | with_reducible refine rp_not ?_
    | with_reducible refine rp_ifT ?_
    | with_reducible refine rp_slc ?_
    | with_reducible refine rp_p0 ?_
    | with_reducible refine rp_p1 ?_
    | with_reducible refine rp_tup ?_
    | with_reducible refine rp_lst ?_
    | with_reducible refine rp_isi ?_
    | with_reducible refine rp_isit ?_
    | with_reducible refine rp_mth ?_
    | with_reducible refine rp_cmp2 ?_
    | with_reducible refine rp_neg ?_
    | with_reducible refine rp_t0 ?_
    | with_reducible refine rp_t1 ?_
    | with_reducible refine rp_lc ?_
    | with_reducible refine rp_lcL ?_
    | with_reducible refine rp_lstL ?_
    | with_reducible refine rp_catL ?_
    | with_reducible refine rp_listL ?_
    | with_reducible refine rp_of ?_
    | with_reducible refine rp_r1 ?_
    | with_reducible refine rp_r2 ?_
    | with_reducible refine rp_enum ?_
    | with_reducible refine rp_zip ?_
    | with_reducible refine op_nil ?_
    | with_reducible refine op_norm (by simp only [List.set_cons_succ, List.set_cons_zero, List.map_cons, List.map_nil, List.cons_append, List.nil_append]; rfl) (op_cons ?_)
    | with_reducible refine op_cons ?_
    | with_reducible refine op_asg ?_
    | with_reducible refine op_ifT ?_
    | with_reducible refine rt_and ?_
    | with_reducible refine rt_or ?_
    | with_reducible refine rt_not ?_
    | with_reducible refine rt_of ?_
    | with_reducible refine op_ret ?_
    | with_reducible refine op_new ?_
    | with_reducible refine op_app (by with_unfolding_all rfl) (by first | exact st_get | exact st_get2) ?_
    | with_reducible refine op_aug (by with_unfolding_all rfl) (by decide) ?_
    | with_reducible refine op_for ?_
    | with_reducible refine op_par ?_
    | with_reducible refine op_tp ?_
    | with_reducible refine op_seti (by with_unfolding_all rfl) ?_
    | with_reducible refine op_expr ?_
    | with_reducible refine op_doc ?_
    | with_reducible refine op_pass ?_
    | with_reducible refine op_retN ?_
    | with_reducible refine fin0 ?_
    | with_reducible refine fin1 ?_
    | with_reducible refine fino1 ?_
    | with_reducible refine fin2 ?_
    | refine ⟨_, _, _, _, rfl, st_get, lt_sz (by first | omega | (simp only [List.length_map, List.length_append, List.length_cons, List.length_nil]; omega)), st_set, ?_⟩
    | refine ⟨_, rfl, rngOk_in (by omega) (by omega), ?_⟩
    | refine ⟨_, src_live, ?_⟩
    | refine ⟨_, bi_live rfl, ?_⟩
    | (refine ⟨_, rfl, fun h => ?_, fun h => ?_⟩ <;> try (first | exact absurd h (by decide) | exact (f_t h).elim | exact (t_f h).elim))
    | refine ⟨_, rfl, ?_⟩
    | refine ⟨_, if_pos (by first | assumption | omega), ?_⟩
    | refine ⟨_, _, rfl, le_sz rfl, ?_⟩
    | refine ⟨_, _, rfl, rfl, ?_⟩
    | refine ⟨_, _, rfl, if_pos (by first | assumption | omega), ?_⟩
    | refine ⟨_, rfl, rfl, ?_⟩
    | refine ⟨rfl, ?_⟩
    | exact rfl
    | dsimp only)
    · have hne : ¬ (xs.length : Int) = 3 := by
        intro e
        have h' : (!deq (.int xs.length) (.int 3)) = true := h
        rw [deq, e] at h'
        cases h'
      match xs, hne with
      | [a, b, c], h => exact absurd rfl h
      | [], _ => rfl
      | [_], _ => rfl
      | [_, _], _ => rfl
      | _ :: _ :: _ :: _ :: _, _ => rfl
    · have h' : (!deq (.int xs.length) (.int 3)) = false := h
      rw [deq] at h'
      have h3 : (xs.length : Int) = 3 := by simpa using h'
      obtain ⟨x, y, z, rfl⟩ := three h3
      have q0 := at0 x [y, z]
      have q1 := at1 x y [z]
      have q2 := at2 x y z []
      repeat' (first
    | with_reducible refine rp_var (by with_unfolding_all rfl) ?_
    | refine ⟨_, q0, ?_⟩
    | refine ⟨_, q1, ?_⟩
    | refine ⟨_, q2, ?_⟩
    | with_reducible refine rp_lit ?_
    | with_reducible refine rp_glb ?_
    | with_reducible refine rp_bin ?_
    | with_reducible refine rp_cmp ?_
    | with_reducible refine rp_cons ?_
    | with_reducible refine rp_nil ?_
    | with_reducible refine rp_idx ?_
    | with_reducible refine rp_call ?_
    | with_reducible refine rp_bi ?_
    | with_reducible refine rp_fz ?_
    | with_reducible refine rp_and ?_
    | with_reducible refine rp_or ?_
    | with_reducible refine rp_not ?_
    | with_reducible refine rp_ifT ?_
    | with_reducible refine rp_slc ?_
    | with_reducible refine rp_p0 ?_
    | with_reducible refine rp_p1 ?_
    | with_reducible refine rp_tup ?_
    | with_reducible refine rp_lst ?_
    | with_reducible refine rp_isi ?_
    | with_reducible refine rp_isit ?_
    | with_reducible refine rp_mth ?_
    | with_reducible refine rp_cmp2 ?_
    | with_reducible refine rp_neg ?_
    | with_reducible refine rp_t0 ?_
    | with_reducible refine rp_t1 ?_
    | with_reducible refine rp_lc ?_
    | with_reducible refine rp_lcL ?_
    | with_reducible refine rp_lstL ?_
    | with_reducible refine rp_catL ?_
    | with_reducible refine rp_listL ?_
    | with_reducible refine rp_of ?_
    | with_reducible refine rp_r1 ?_
    | with_reducible refine rp_r2 ?_
    | with_reducible refine rp_enum ?_
    | with_reducible refine rp_zip ?_
    | with_reducible refine op_nil ?_
    | with_reducible refine op_norm (by simp only [List.set_cons_succ, List.set_cons_zero, List.map_cons, List.map_nil, List.cons_append, List.nil_append]; rfl) (op_cons ?_)
    | with_reducible refine op_cons ?_
    | with_reducible refine op_asg ?_
    | with_reducible refine op_ifT ?_
    | with_reducible refine rt_and ?_
    | with_reducible refine rt_or ?_
    | with_reducible refine rt_not ?_
    | with_reducible refine rt_of ?_
    | with_reducible refine op_ret ?_
    | with_reducible refine op_new ?_
    | with_reducible refine op_app (by with_unfolding_all rfl) (by first | exact st_get | exact st_get2) ?_
    | with_reducible refine op_aug (by with_unfolding_all rfl) (by decide) ?_
    | with_reducible refine op_for ?_
    | with_reducible refine op_par ?_
    | with_reducible refine op_tp ?_
    | with_reducible refine op_seti (by with_unfolding_all rfl) ?_
    | with_reducible refine op_expr ?_
    | with_reducible refine op_doc ?_
    | with_reducible refine op_pass ?_
    | with_reducible refine op_retN ?_
    | with_reducible refine fin0 ?_
    | with_reducible refine fin1 ?_
    | with_reducible refine fino1 ?_
    | with_reducible refine fin2 ?_
    | refine ⟨_, _, _, _, rfl, st_get, lt_sz (by first | omega | (simp only [List.length_map, List.length_append, List.length_cons, List.length_nil]; omega)), st_set, ?_⟩
    | refine ⟨_, rfl, rngOk_in (by omega) (by omega), ?_⟩
    | refine ⟨_, src_live, ?_⟩
    | refine ⟨_, bi_live rfl, ?_⟩
    | (refine ⟨_, rfl, fun h => ?_, fun h => ?_⟩ <;> try (first | exact absurd h (by decide) | exact (f_t h).elim | exact (t_f h).elim))
    | refine ⟨_, rfl, ?_⟩
    | refine ⟨_, if_pos (by first | assumption | omega), ?_⟩
    | refine ⟨_, _, rfl, le_sz rfl, ?_⟩
    | refine ⟨_, _, rfl, rfl, ?_⟩
    | refine ⟨_, _, rfl, if_pos (by first | assumption | omega), ?_⟩
    | refine ⟨_, rfl, rfl, ?_⟩
    | refine ⟨rfl, ?_⟩
    | exact rfl
    | dsimp only)
      refine RP.of_no (lis_name_ok hN n (hx x (by simp)) hb S) fun v S1 ⟨e1, e2⟩ => ?_
      subst e1; subst e2
      repeat' (first
    | with_reducible refine rp_var (by with_unfolding_all rfl) ?_
    | refine ⟨_, q0, ?_⟩
    | refine ⟨_, q1, ?_⟩
    | refine ⟨_, q2, ?_⟩
    | with_reducible refine rp_lit ?_
    | with_reducible refine rp_glb ?_
    | with_reducible refine rp_bin ?_
    | with_reducible refine rp_cmp ?_
    | with_reducible refine rp_cons ?_
    | with_reducible refine rp_nil ?_
    | with_reducible refine rp_idx ?_
    | with_reducible refine rp_call ?_
    | with_reducible refine rp_bi ?_
    | with_reducible refine rp_fz ?_
    | with_reducible refine rp_and ?_
    | with_reducible refine rp_or ?_
    | with_reducible refine rp_not ?_
    | with_reducible refine rp_ifT ?_
    | with_reducible refine rp_slc ?_
    | with_reducible refine rp_p0 ?_
    | with_reducible refine rp_p1 ?_
    | with_reducible refine rp_tup ?_
    | with_reducible refine rp_lst ?_
    | with_reducible refine rp_isi ?_
    | with_reducible refine rp_isit ?_
    | with_reducible refine rp_mth ?_
    | with_reducible refine rp_cmp2 ?_
    | with_reducible refine rp_neg ?_
    | with_reducible refine rp_t0 ?_
    | with_reducible refine rp_t1 ?_
    | with_reducible refine rp_lc ?_
    | with_reducible refine rp_lcL ?_
    | with_reducible refine rp_lstL ?_
    | with_reducible refine rp_catL ?_
    | with_reducible refine rp_listL ?_
    | with_reducible refine rp_of ?_
    | with_reducible refine rp_r1 ?_
    | with_reducible refine rp_r2 ?_
    | with_reducible refine rp_enum ?_
    | with_reducible refine rp_zip ?_
    | with_reducible refine op_nil ?_
    | with_reducible refine op_norm (by simp only [List.set_cons_succ, List.set_cons_zero, List.map_cons, List.map_nil, List.cons_append, List.nil_append]; rfl) (op_cons ?_)
    | with_reducible refine op_cons ?_
    | with_reducible refine op_asg ?_
    | with_reducible refine op_ifT ?_
    | with_reducible refine rt_and ?_
    | with_reducible refine rt_or ?_
    | with_reducible refine rt_not ?_
    | with_reducible refine rt_of ?_
    | with_reducible refine op_ret ?_
    | with_reducible refine op_new ?_
    | with_reducible refine op_app (by with_unfolding_all rfl) (by first | exact st_get | exact st_get2) ?_
    | with_reducible refine op_aug (by with_unfolding_all rfl) (by decide) ?_
    | with_reducible refine op_for ?_
    | with_reducible refine op_par ?_
    | with_reducible refine op_tp ?_
    | with_reducible refine op_seti (by with_unfolding_all rfl) ?_
    | with_reducible refine op_expr ?_
    | with_reducible refine op_doc ?_
    | with_reducible refine op_pass ?_
    | with_reducible refine op_retN ?_
    | with_reducible refine fin0 ?_
    | with_reducible refine fin1 ?_
    | with_reducible refine fino1 ?_
    | with_reducible refine fin2 ?_
    | refine ⟨_, _, _, _, rfl, st_get, lt_sz (by first | omega | (simp only [List.length_map, List.length_append, List.length_cons, List.length_nil]; omega)), st_set, ?_⟩
    | refine ⟨_, rfl, rngOk_in (by omega) (by omega), ?_⟩
    | refine ⟨_, src_live, ?_⟩
    | refine ⟨_, bi_live rfl, ?_⟩
    | (refine ⟨_, rfl, fun h => ?_, fun h => ?_⟩ <;> try (first | exact absurd h (by decide) | exact (f_t h).elim | exact (t_f h).elim))
    | refine ⟨_, rfl, ?_⟩
    | refine ⟨_, if_pos (by first | assumption | omega), ?_⟩
    | refine ⟨_, _, rfl, le_sz rfl, ?_⟩
    | refine ⟨_, _, rfl, rfl, ?_⟩
    | refine ⟨_, _, rfl, if_pos (by first | assumption | omega), ?_⟩
    | refine ⟨_, rfl, rfl, ?_⟩
    | refine ⟨rfl, ?_⟩
    | exact rfl
    | dsimp only)
      · refine RP.of_no (lfrom_ok hF n y 1 9 _) fun v S1 ⟨e1, e2⟩ => ?_
        subst e1; subst e2
        repeat' (first
    | with_reducible refine rp_var (by with_unfolding_all rfl) ?_
    | refine ⟨_, q0, ?_⟩
    | refine ⟨_, q1, ?_⟩
    | refine ⟨_, q2, ?_⟩
    | with_reducible refine rp_lit ?_
    | with_reducible refine rp_glb ?_
    | with_reducible refine rp_bin ?_
    | with_reducible refine rp_cmp ?_
    | with_reducible refine rp_cons ?_
    | with_reducible refine rp_nil ?_
    | with_reducible refine rp_idx ?_
    | with_reducible refine rp_call ?_
    | with_reducible refine rp_bi ?_
    | with_reducible refine rp_fz ?_
    | with_reducible refine rp_and ?_
    | with_reducible refine rp_or ?_
    | with_reducible refine rp_not ?_
    | with_reducible refine rp_ifT ?_
    | with_reducible refine rp_slc ?_
    | with_reducible refine rp_p0 ?_
    | with_reducible refine rp_p1 ?_
    | with_reducible refine rp_tup ?_
    | with_reducible refine rp_lst ?_
    | with_reducible refine rp_isi ?_
    | with_reducible refine rp_isit ?_
    | with_reducible refine rp_mth ?_
    | with_reducible refine rp_cmp2 ?_
    | with_reducible refine rp_neg ?_
    | with_reducible refine rp_t0 ?_
    | with_reducible refine rp_t1 ?_
    | with_reducible refine rp_lc ?_
    | with_reducible refine rp_lcL ?_
    | with_reducible refine rp_lstL ?_
    | with_reducible refine rp_catL ?_
    | with_reducible refine rp_listL ?_
    | with_reducible refine rp_of ?_
    | with_reducible refine rp_r1 ?_
    | with_reducible refine rp_r2 ?_
    | with_reducible refine rp_enum ?_
    | with_reducible refine rp_zip ?_
    | with_reducible refine op_nil ?_
    | with_reducible refine op_norm (by simp only [List.set_cons_succ, List.set_cons_zero, List.map_cons, List.map_nil, List.cons_append, List.nil_append]; rfl) (op_cons ?_)
    | with_reducible refine op_cons ?_
    | with_reducible refine op_asg ?_
    | with_reducible refine op_ifT ?_
    | with_reducible refine rt_and ?_
    | with_reducible refine rt_or ?_
    | with_reducible refine rt_not ?_
    | with_reducible refine rt_of ?_
    | with_reducible refine op_ret ?_
    | with_reducible refine op_new ?_
    | with_reducible refine op_app (by with_unfolding_all rfl) (by first | exact st_get | exact st_get2) ?_
    | with_reducible refine op_aug (by with_unfolding_all rfl) (by decide) ?_
    | with_reducible refine op_for ?_
    | with_reducible refine op_par ?_
    | with_reducible refine op_tp ?_
    | with_reducible refine op_seti (by with_unfolding_all rfl) ?_
    | with_reducible refine op_expr ?_
    | with_reducible refine op_doc ?_
    | with_reducible refine op_pass ?_
    | with_reducible refine op_retN ?_
    | with_reducible refine fin0 ?_
    | with_reducible refine fin1 ?_
    | with_reducible refine fino1 ?_
    | with_reducible refine fin2 ?_
    | refine ⟨_, _, _, _, rfl, st_get, lt_sz (by first | omega | (simp only [List.length_map, List.length_append, List.length_cons, List.length_nil]; omega)), st_set, ?_⟩
    | refine ⟨_, rfl, rngOk_in (by omega) (by omega), ?_⟩
    | refine ⟨_, src_live, ?_⟩
    | refine ⟨_, bi_live rfl, ?_⟩
    | (refine ⟨_, rfl, fun h => ?_, fun h => ?_⟩ <;> try (first | exact absurd h (by decide) | exact (f_t h).elim | exact (t_f h).elim))
    | refine ⟨_, rfl, ?_⟩
    | refine ⟨_, if_pos (by first | assumption | omega), ?_⟩
    | refine ⟨_, _, rfl, le_sz rfl, ?_⟩
    | refine ⟨_, _, rfl, rfl, ?_⟩
    | refine ⟨_, _, rfl, if_pos (by first | assumption | omega), ?_⟩
    | refine ⟨_, rfl, rfl, ?_⟩
    | refine ⟨rfl, ?_⟩
    | exact rfl
    | dsimp only)
        · cases z <;> simp [colB, blB, isiD, *]
        · simp [colB, *]
      · simp [colB, *]
  | _ => repeat' (first
    | with_reducible refine rp_var (by with_unfolding_all rfl) ?_
    | with_reducible refine rp_lit ?_
    | with_reducible refine rp_glb ?_
    | with_reducible refine rp_bin ?_
    | with_reducible refine rp_cmp ?_
    | with_reducible refine rp_cons ?_
    | with_reducible refine rp_nil ?_
    | with_reducible refine rp_idx ?_
    | with_reducible refine rp_call ?_
    | with_reducible refine rp_bi ?_
    | with_reducible refine rp_fz ?_
    | with_reducible refine rp_and ?_
    | with_reducible refine rp_or ?_
    | with_reducible refine rp_not ?_
    | with_reducible refine rp_ifT ?_
    | with_reducible refine rp_slc ?_
    | with_reducible refine rp_p0 ?_
    | with_reducible refine rp_p1 ?_
    | with_reducible refine rp_tup ?_
    | with_reducible refine rp_lst ?_
    | with_reducible refine rp_isi ?_
    | with_reducible refine rp_isit ?_
    | with_reducible refine rp_mth ?_
    | with_reducible refine rp_cmp2 ?_
    | with_reducible refine rp_neg ?_
    | with_reducible refine rp_t0 ?_
    | with_reducible refine rp_t1 ?_
    | with_reducible refine rp_lc ?_
    | with_reducible refine rp_lcL ?_
    | with_reducible refine rp_lstL ?_
    | with_reducible refine rp_catL ?_
    | with_reducible refine rp_listL ?_
    | with_reducible refine rp_of ?_
    | with_reducible refine rp_r1 ?_
    | with_reducible refine rp_r2 ?_
    | with_reducible refine rp_enum ?_
    | with_reducible refine rp_zip ?_
    | with_reducible refine op_nil ?_
    | with_reducible refine op_norm (by simp only [List.set_cons_succ, List.set_cons_zero, List.map_cons, List.map_nil, List.cons_append, List.nil_append]; rfl) (op_cons ?_)
    | with_reducible refine op_cons ?_
    | with_reducible refine op_asg ?_
    | with_reducible refine op_ifT ?_
    | with_reducible refine rt_and ?_
    | with_reducible refine rt_or ?_
    | with_reducible refine rt_not ?_
    | with_reducible refine rt_of ?_
    | with_reducible refine op_ret ?_
    | with_reducible refine op_new ?_
    | with_reducible refine op_app (by with_unfolding_all rfl) (by first | exact st_get | exact st_get2) ?_
    | with_reducible refine op_aug (by with_unfolding_all rfl) (by decide) ?_
    | with_reducible refine op_for ?_
    | with_reducible refine op_par ?_
    | with_reducible refine op_tp ?_
    | with_reducible refine op_seti (by with_unfolding_all rfl) ?_
    | with_reducible refine op_expr ?_
    | with_reducible refine op_doc ?_
    | with_reducible refine op_pass ?_
    | with_reducible refine op_retN ?_
    | with_reducible refine fin0 ?_
    | with_reducible refine fin1 ?_
    | with_reducible refine fino1 ?_
    | with_reducible refine fin2 ?_
    | refine ⟨_, _, _, _, rfl, st_get, lt_sz (by first | omega | (simp only [List.length_map, List.length_append, List.length_cons, List.length_nil]; omega)), st_set, ?_⟩
    | refine ⟨_, rfl, rngOk_in (by omega) (by omega), ?_⟩
    | refine ⟨_, src_live, ?_⟩
    | refine ⟨_, bi_live rfl, ?_⟩
    | (refine ⟨_, rfl, fun h => ?_, fun h => ?_⟩ <;> try (first | exact absurd h (by decide) | exact (f_t h).elim | exact (t_f h).elim))
    | refine ⟨_, rfl, ?_⟩
    | refine ⟨_, if_pos (by first | assumption | omega), ?_⟩
    | refine ⟨_, _, rfl, le_sz rfl, ?_⟩
    | refine ⟨_, _, rfl, rfl, ?_⟩
    | refine ⟨_, _, rfl, if_pos (by first | assumption | omega), ?_⟩
    | refine ⟨_, rfl, rfl, ?_⟩
    | refine ⟨rfl, ?_⟩
    | exact rfl
    | dsimp only)
theorem lset_eq {ws : List Str} : deq (.int ((dset ws).length : Nat)) (.int ws.length) = decide ws.Nodup := by
  rw [deq]
  have e2 := dset_full ws
  by_cases hn : ws.Nodup
  · have e3 := e2.mpr hn
    simp only [hn, decide_true, beq_iff_eq]
    omega
  · have : ¬ (dset ws).length = ws.length := fun e => hn (e2.mp e)
    simp only [hn, decide_false, beq_eq_false_iff_ne, ne_eq]
    omega
theorem lis_table_ok {T : List Fn} {i iF iN iC b : Nat} (hT : T[i]? = some (f__law_is_table iF iN iC)) (hF : T[iF]? = some f__law_from) (hN : T[iN]? = some f__law_is_name) (hC : T[iC]? = some (f__law_is_column iF iN)) (n : Nat) {d : D} (hd : Nc b d) (hb : b ≤ 1000) (S : St') : RP (FT T (n + 3) i [.t d] S) (Is S (.bl (tabB d))) noE := by
  refine rp_fn hT rfl rfl ?_
  simp only [f__law_is_table, pad]
  cases hd with
  | @tup xs hx hl =>
    by_cases h3 : (xs.length : Int) = 3
    · obtain ⟨x, y, z, rfl⟩ := three h3
      have q0 := at0 x [y, z]
      have q1 := at1 x y [z]
      have q2 := at2 x y z []
      have hz := hx z (by simp)
      cases hz with
      | @tup cs hcx hcl =>
        repeat' (first
    | with_reducible refine rp_var (by with_unfolding_all rfl) ?_
    | refine ⟨_, q0, ?_⟩
    | refine ⟨_, q1, ?_⟩
    | refine ⟨_, q2, ?_⟩
    | with_reducible refine rp_lit ?_
    | with_reducible refine rp_glb ?_
    | with_reducible refine rp_bin ?_
    | with_reducible refine rp_cmp ?_
    | with_reducible refine rp_cons ?_
    | with_reducible refine rp_nil ?_
    | with_reducible refine rp_idx ?_
    | with_reducible refine rp_call ?_
    | with_reducible refine rp_bi ?_
    | with_reducible refine rp_fz ?_
    | with_reducible refine rp_and ?_
    | with_reducible refine rp_or ?_
    | with_reducible refine rp_not ?_
    | with_reducible refine rp_ifT ?_
    | with_reducible refine rp_slc ?_
    | with_reducible refine rp_p0 ?_
    | with_reducible refine rp_p1 ?_
    | with_reducible refine rp_tup ?_
    | with_reducible refine rp_lst ?_
    | with_reducible refine rp_isi ?_
    | with_reducible refine rp_isit ?_
    | with_reducible refine rp_mth ?_
    | with_reducible refine rp_cmp2 ?_
    | with_reducible refine rp_neg ?_
    | with_reducible refine rp_t0 ?_
    | with_reducible refine rp_t1 ?_
    | with_reducible refine rp_lc ?_
    | with_reducible refine rp_lcL ?_
    | with_reducible refine rp_lstL ?_
    | with_reducible refine rp_catL ?_
    | with_reducible refine rp_listL ?_
    | with_reducible refine rp_of ?_
    | with_reducible refine rp_r1 ?_
    | with_reducible refine rp_r2 ?_
    | with_reducible refine rp_enum ?_
    | with_reducible refine rp_zip ?_
    | with_reducible refine op_nil ?_
    | with_reducible refine op_norm (by simp only [List.set_cons_succ, List.set_cons_zero, List.map_cons, List.map_nil, List.cons_append, List.nil_append]; rfl) (op_cons ?_)
    | with_reducible refine op_cons ?_
    | with_reducible refine op_asg ?_
    | with_reducible refine op_ifT ?_
    | with_reducible refine rt_and ?_
    | with_reducible refine rt_or ?_
    | with_reducible refine rt_not ?_
    | with_reducible refine rt_of ?_
    | with_reducible refine op_ret ?_
    | with_reducible refine op_new ?_
    | with_reducible refine op_app (by with_unfolding_all rfl) (by first | exact st_get | exact st_get2) ?_
    | with_reducible refine op_aug (by with_unfolding_all rfl) (by decide) ?_
    | with_reducible refine op_for ?_
    | with_reducible refine op_par ?_
    | with_reducible refine op_tp ?_
    | with_reducible refine op_seti (by with_unfolding_all rfl) ?_
    | with_reducible refine op_expr ?_
    | with_reducible refine op_doc ?_
    | with_reducible refine op_pass ?_
    | with_reducible refine op_retN ?_
    | with_reducible refine fin0 ?_
    | with_reducible refine fin1 ?_
    | with_reducible refine fino1 ?_
    | with_reducible refine fin2 ?_
    | refine ⟨_, _, _, _, rfl, st_get, lt_sz (by first | omega | (simp only [List.length_map, List.length_append, List.length_cons, List.length_nil]; omega)), st_set, ?_⟩
    | refine ⟨_, rfl, rngOk_in (by omega) (by omega), ?_⟩
    | refine ⟨_, src_live, ?_⟩
    | refine ⟨_, bi_live rfl, ?_⟩
    | (refine ⟨_, rfl, fun h => ?_, fun h => ?_⟩ <;> try (first | exact absurd h (by decide) | exact (f_t h).elim | exact (t_f h).elim))
    | refine ⟨_, rfl, ?_⟩
    | refine ⟨_, if_pos (by first | assumption | omega), ?_⟩
    | refine ⟨_, _, rfl, le_sz rfl, ?_⟩
    | refine ⟨_, _, rfl, rfl, ?_⟩
    | refine ⟨_, _, rfl, if_pos (by first | assumption | omega), ?_⟩
    | refine ⟨_, rfl, rfl, ?_⟩
    | refine ⟨rfl, ?_⟩
    | exact rfl
    | dsimp only)
        refine RP.of_no (lis_name_ok hN (n + 1) (hx x (by simp)) hb S) fun v S1 ⟨e1, e2⟩ => ?_
        subst e1; subst e2
        repeat' (first
    | with_reducible refine rp_var (by with_unfolding_all rfl) ?_
    | refine ⟨_, q0, ?_⟩
    | refine ⟨_, q1, ?_⟩
    | refine ⟨_, q2, ?_⟩
    | with_reducible refine rp_lit ?_
    | with_reducible refine rp_glb ?_
    | with_reducible refine rp_bin ?_
    | with_reducible refine rp_cmp ?_
    | with_reducible refine rp_cons ?_
    | with_reducible refine rp_nil ?_
    | with_reducible refine rp_idx ?_
    | with_reducible refine rp_call ?_
    | with_reducible refine rp_bi ?_
    | with_reducible refine rp_fz ?_
    | with_reducible refine rp_and ?_
    | with_reducible refine rp_or ?_
    | with_reducible refine rp_not ?_
    | with_reducible refine rp_ifT ?_
    | with_reducible refine rp_slc ?_
    | with_reducible refine rp_p0 ?_
    | with_reducible refine rp_p1 ?_
    | with_reducible refine rp_tup ?_
    | with_reducible refine rp_lst ?_
    | with_reducible refine rp_isi ?_
    | with_reducible refine rp_isit ?_
    | with_reducible refine rp_mth ?_
    | with_reducible refine rp_cmp2 ?_
    | with_reducible refine rp_neg ?_
    | with_reducible refine rp_t0 ?_
    | with_reducible refine rp_t1 ?_
    | with_reducible refine rp_lc ?_
    | with_reducible refine rp_lcL ?_
    | with_reducible refine rp_lstL ?_
    | with_reducible refine rp_catL ?_
    | with_reducible refine rp_listL ?_
    | with_reducible refine rp_of ?_
    | with_reducible refine rp_r1 ?_
    | with_reducible refine rp_r2 ?_
    | with_reducible refine rp_enum ?_
    | with_reducible refine rp_zip ?_
    | with_reducible refine op_nil ?_
    | with_reducible refine op_norm (by simp only [List.set_cons_succ, List.set_cons_zero, List.map_cons, List.map_nil, List.cons_append, List.nil_append]; rfl) (op_cons ?_)
    | with_reducible refine op_cons ?_
    | with_reducible refine op_asg ?_
    | with_reducible refine op_ifT ?_
    | with_reducible refine rt_and ?_
    | with_reducible refine rt_or ?_
    | with_reducible refine rt_not ?_
    | with_reducible refine rt_of ?_
    | with_reducible refine op_ret ?_
    | with_reducible refine op_new ?_
    | with_reducible refine op_app (by with_unfolding_all rfl) (by first | exact st_get | exact st_get2) ?_
    | with_reducible refine op_aug (by with_unfolding_all rfl) (by decide) ?_
    | with_reducible refine op_for ?_
    | with_reducible refine op_par ?_
    | with_reducible refine op_tp ?_
    | with_reducible refine op_seti (by with_unfolding_all rfl) ?_
    | with_reducible refine op_expr ?_
    | with_reducible refine op_doc ?_
    | with_reducible refine op_pass ?_
    | with_reducible refine op_retN ?_
    | with_reducible refine fin0 ?_
    | with_reducible refine fin1 ?_
    | with_reducible refine fino1 ?_
    | with_reducible refine fin2 ?_
    | refine ⟨_, _, _, _, rfl, st_get, lt_sz (by first | omega | (simp only [List.length_map, List.length_append, List.length_cons, List.length_nil]; omega)), st_set, ?_⟩
    | refine ⟨_, rfl, rngOk_in (by omega) (by omega), ?_⟩
    | refine ⟨_, src_live, ?_⟩
    | refine ⟨_, bi_live rfl, ?_⟩
    | (refine ⟨_, rfl, fun h => ?_, fun h => ?_⟩ <;> try (first | exact absurd h (by decide) | exact (f_t h).elim | exact (t_f h).elim))
    | refine ⟨_, rfl, ?_⟩
    | refine ⟨_, if_pos (by first | assumption | omega), ?_⟩
    | refine ⟨_, _, rfl, le_sz rfl, ?_⟩
    | refine ⟨_, _, rfl, rfl, ?_⟩
    | refine ⟨_, _, rfl, if_pos (by first | assumption | omega), ?_⟩
    | refine ⟨_, rfl, rfl, ?_⟩
    | refine ⟨rfl, ?_⟩
    | exact rfl
    | dsimp only)
        · have hnm := h
          refine RP.of_no (lfrom_ok hF (n + 1) _ 1 4 _) fun v S1 ⟨e1, e2⟩ => ?_
          subst e1; subst e2
          repeat' (first
    | with_reducible refine rp_var (by with_unfolding_all rfl) ?_
    | refine ⟨_, q0, ?_⟩
    | refine ⟨_, q1, ?_⟩
    | refine ⟨_, q2, ?_⟩
    | with_reducible refine rp_lit ?_
    | with_reducible refine rp_glb ?_
    | with_reducible refine rp_bin ?_
    | with_reducible refine rp_cmp ?_
    | with_reducible refine rp_cons ?_
    | with_reducible refine rp_nil ?_
    | with_reducible refine rp_idx ?_
    | with_reducible refine rp_call ?_
    | with_reducible refine rp_bi ?_
    | with_reducible refine rp_fz ?_
    | with_reducible refine rp_and ?_
    | with_reducible refine rp_or ?_
    | with_reducible refine rp_not ?_
    | with_reducible refine rp_ifT ?_
    | with_reducible refine rp_slc ?_
    | with_reducible refine rp_p0 ?_
    | with_reducible refine rp_p1 ?_
    | with_reducible refine rp_tup ?_
    | with_reducible refine rp_lst ?_
    | with_reducible refine rp_isi ?_
    | with_reducible refine rp_isit ?_
    | with_reducible refine rp_mth ?_
    | with_reducible refine rp_cmp2 ?_
    | with_reducible refine rp_neg ?_
    | with_reducible refine rp_t0 ?_
    | with_reducible refine rp_t1 ?_
    | with_reducible refine rp_lc ?_
    | with_reducible refine rp_lcL ?_
    | with_reducible refine rp_lstL ?_
    | with_reducible refine rp_catL ?_
    | with_reducible refine rp_listL ?_
    | with_reducible refine rp_of ?_
    | with_reducible refine rp_r1 ?_
    | with_reducible refine rp_r2 ?_
    | with_reducible refine rp_enum ?_
    | with_reducible refine rp_zip ?_
    | with_reducible refine op_nil ?_
    | with_reducible refine op_norm (by simp only [List.set_cons_succ, List.set_cons_zero, List.map_cons, List.map_nil, List.cons_append, List.nil_append]; rfl) (op_cons ?_)
    | with_reducible refine op_cons ?_
    | with_reducible refine op_asg ?_
    | with_reducible refine op_ifT ?_
    | with_reducible refine rt_and ?_
    | with_reducible refine rt_or ?_
    | with_reducible refine rt_not ?_
    | with_reducible refine rt_of ?_
    | with_reducible refine op_ret ?_
    | with_reducible refine op_new ?_
    | with_reducible refine op_app (by with_unfolding_all rfl) (by first | exact st_get | exact st_get2) ?_
    | with_reducible refine op_aug (by with_unfolding_all rfl) (by decide) ?_
    | with_reducible refine op_for ?_
    | with_reducible refine op_par ?_
    | with_reducible refine op_tp ?_
    | with_reducible refine op_seti (by with_unfolding_all rfl) ?_
    | with_reducible refine op_expr ?_
    | with_reducible refine op_doc ?_
    | with_reducible refine op_pass ?_
    | with_reducible refine op_retN ?_
    | with_reducible refine fin0 ?_
    | with_reducible refine fin1 ?_
    | with_reducible refine fino1 ?_
    | with_reducible refine fin2 ?_
    | refine ⟨_, _, _, _, rfl, st_get, lt_sz (by first | omega | (simp only [List.length_map, List.length_append, List.length_cons, List.length_nil]; omega)), st_set, ?_⟩
    | refine ⟨_, rfl, rngOk_in (by omega) (by omega), ?_⟩
    | refine ⟨_, src_live, ?_⟩
    | refine ⟨_, bi_live rfl, ?_⟩
    | (refine ⟨_, rfl, fun h => ?_, fun h => ?_⟩ <;> try (first | exact absurd h (by decide) | exact (f_t h).elim | exact (t_f h).elim))
    | refine ⟨_, rfl, ?_⟩
    | refine ⟨_, if_pos (by first | assumption | omega), ?_⟩
    | refine ⟨_, _, rfl, le_sz rfl, ?_⟩
    | refine ⟨_, _, rfl, rfl, ?_⟩
    | refine ⟨_, _, rfl, if_pos (by first | assumption | omega), ?_⟩
    | refine ⟨_, rfl, rfl, ?_⟩
    | refine ⟨rfl, ?_⟩
    | exact rfl
    | dsimp only)
          · have h14 : 1 ≤ cs.length ∧ cs.length ≤ 4 := by
              simp only [fromB, Bool.and_eq_true, decide_eq_true_eq] at h
              omega
            refine rp_lcI (fun x => .bl (colB x)) (by omega) (fun x hxx acc => ?_) ?_
            · refine ⟨_, rfl, ?_⟩
              repeat' (first
    | with_reducible refine rp_var (by with_unfolding_all rfl) ?_
    | with_reducible refine rp_lit ?_
    | with_reducible refine rp_glb ?_
    | with_reducible refine rp_bin ?_
    | with_reducible refine rp_cmp ?_
    | with_reducible refine rp_cons ?_
    | with_reducible refine rp_nil ?_
    | with_reducible refine rp_idx ?_
    | with_reducible refine rp_call ?_
    | with_reducible refine rp_bi ?_
    | with_reducible refine rp_fz ?_
    | with_reducible refine rp_and ?_
    | with_reducible refine rp_or ?_
    | with_reducible refine rp_not ?_
    | with_reducible refine rp_ifT ?_
    | with_reducible refine rp_slc ?_
    | with_reducible refine rp_p0 ?_
    | with_reducible refine rp_p1 ?_
    | with_reducible refine rp_tup ?_
    | with_reducible refine rp_lst ?_
    | with_reducible refine rp_isi ?_
    | with_reducible refine rp_isit ?_
    | with_reducible refine rp_mth ?_
    | with_reducible refine rp_cmp2 ?_
    | with_reducible refine rp_neg ?_
    | with_reducible refine rp_t0 ?_
    | with_reducible refine rp_t1 ?_
    | with_reducible refine rp_lc ?_
    | with_reducible refine rp_lcL ?_
    | with_reducible refine rp_lstL ?_
    | with_reducible refine rp_catL ?_
    | with_reducible refine rp_listL ?_
    | with_reducible refine rp_of ?_
    | with_reducible refine rp_r1 ?_
    | with_reducible refine rp_r2 ?_
    | with_reducible refine rp_enum ?_
    | with_reducible refine rp_zip ?_
    | with_reducible refine op_nil ?_
    | with_reducible refine op_norm (by simp only [List.set_cons_succ, List.set_cons_zero, List.map_cons, List.map_nil, List.cons_append, List.nil_append]; rfl) (op_cons ?_)
    | with_reducible refine op_cons ?_
    | with_reducible refine op_asg ?_
    | with_reducible refine op_ifT ?_
    | with_reducible refine rt_and ?_
    | with_reducible refine rt_or ?_
    | with_reducible refine rt_not ?_
    | with_reducible refine rt_of ?_
    | with_reducible refine op_ret ?_
    | with_reducible refine op_new ?_
    | with_reducible refine op_app (by with_unfolding_all rfl) (by first | exact st_get | exact st_get2) ?_
    | with_reducible refine op_aug (by with_unfolding_all rfl) (by decide) ?_
    | with_reducible refine op_for ?_
    | with_reducible refine op_par ?_
    | with_reducible refine op_tp ?_
    | with_reducible refine op_seti (by with_unfolding_all rfl) ?_
    | with_reducible refine op_expr ?_
    | with_reducible refine op_doc ?_
    | with_reducible refine op_pass ?_
    | with_reducible refine op_retN ?_
    | with_reducible refine fin0 ?_
    | with_reducible refine fin1 ?_
    | with_reducible refine fino1 ?_
    | with_reducible refine fin2 ?_
    | refine ⟨_, _, _, _, rfl, st_get, lt_sz (by first | omega | (simp only [List.length_map, List.length_append, List.length_cons, List.length_nil]; omega)), st_set, ?_⟩
    | refine ⟨_, rfl, rngOk_in (by omega) (by omega), ?_⟩
    | refine ⟨_, src_live, ?_⟩
    | refine ⟨_, bi_live rfl, ?_⟩
    | (refine ⟨_, rfl, fun h => ?_, fun h => ?_⟩ <;> try (first | exact absurd h (by decide) | exact (f_t h).elim | exact (t_f h).elim))
    | refine ⟨_, rfl, ?_⟩
    | refine ⟨_, if_pos (by first | assumption | omega), ?_⟩
    | refine ⟨_, _, rfl, le_sz rfl, ?_⟩
    | refine ⟨_, _, rfl, rfl, ?_⟩
    | refine ⟨_, _, rfl, if_pos (by first | assumption | omega), ?_⟩
    | refine ⟨_, rfl, rfl, ?_⟩
    | refine ⟨rfl, ?_⟩
    | exact rfl
    | dsimp only)
              exact RP.of_no (lis_column_ok hC hF hN n (hcx x hxx) hb _) fun v S1 ⟨e1, e2⟩ => ⟨e2, e1⟩
            · repeat' (first
    | with_reducible refine rp_var (by with_unfolding_all rfl) ?_
    | refine ⟨_, all_bls colB cs, ?_⟩
    | refine ⟨_, q0, ?_⟩
    | refine ⟨_, q1, ?_⟩
    | refine ⟨_, q2, ?_⟩
    | with_reducible refine rp_lit ?_
    | with_reducible refine rp_glb ?_
    | with_reducible refine rp_bin ?_
    | with_reducible refine rp_cmp ?_
    | with_reducible refine rp_cons ?_
    | with_reducible refine rp_nil ?_
    | with_reducible refine rp_idx ?_
    | with_reducible refine rp_call ?_
    | with_reducible refine rp_bi ?_
    | with_reducible refine rp_fz ?_
    | with_reducible refine rp_and ?_
    | with_reducible refine rp_or ?_
    | with_reducible refine rp_not ?_
    | with_reducible refine rp_ifT ?_
    | with_reducible refine rp_slc ?_
    | with_reducible refine rp_p0 ?_
    | with_reducible refine rp_p1 ?_
    | with_reducible refine rp_tup ?_
    | with_reducible refine rp_lst ?_
    | with_reducible refine rp_isi ?_
    | with_reducible refine rp_isit ?_
    | with_reducible refine rp_mth ?_
    | with_reducible refine rp_cmp2 ?_
    | with_reducible refine rp_neg ?_
    | with_reducible refine rp_t0 ?_
    | with_reducible refine rp_t1 ?_
    | with_reducible refine rp_lc ?_
    | with_reducible refine rp_lcL ?_
    | with_reducible refine rp_lstL ?_
    | with_reducible refine rp_catL ?_
    | with_reducible refine rp_listL ?_
    | with_reducible refine rp_of ?_
    | with_reducible refine rp_r1 ?_
    | with_reducible refine rp_r2 ?_
    | with_reducible refine rp_enum ?_
    | with_reducible refine rp_zip ?_
    | with_reducible refine op_nil ?_
    | with_reducible refine op_norm (by simp only [List.set_cons_succ, List.set_cons_zero, List.map_cons, List.map_nil, List.cons_append, List.nil_append]; rfl) (op_cons ?_)
    | with_reducible refine op_cons ?_
    | with_reducible refine op_asg ?_
    | with_reducible refine op_ifT ?_
    | with_reducible refine rt_and ?_
    | with_reducible refine rt_or ?_
    | with_reducible refine rt_not ?_
    | with_reducible refine rt_of ?_
    | with_reducible refine op_ret ?_
    | with_reducible refine op_new ?_
    | with_reducible refine op_app (by with_unfolding_all rfl) (by first | exact st_get | exact st_get2) ?_
    | with_reducible refine op_aug (by with_unfolding_all rfl) (by decide) ?_
    | with_reducible refine op_for ?_
    | with_reducible refine op_par ?_
    | with_reducible refine op_tp ?_
    | with_reducible refine op_seti (by with_unfolding_all rfl) ?_
    | with_reducible refine op_expr ?_
    | with_reducible refine op_doc ?_
    | with_reducible refine op_pass ?_
    | with_reducible refine op_retN ?_
    | with_reducible refine fin0 ?_
    | with_reducible refine fin1 ?_
    | with_reducible refine fino1 ?_
    | with_reducible refine fin2 ?_
    | refine ⟨_, _, _, _, rfl, st_get, lt_sz (by first | omega | (simp only [List.length_map, List.length_append, List.length_cons, List.length_nil]; omega)), st_set, ?_⟩
    | refine ⟨_, rfl, rngOk_in (by omega) (by omega), ?_⟩
    | refine ⟨_, src_live, ?_⟩
    | refine ⟨_, bi_live rfl, ?_⟩
    | (refine ⟨_, rfl, fun h => ?_, fun h => ?_⟩ <;> try (first | exact absurd h (by decide) | exact (f_t h).elim | exact (t_f h).elim))
    | refine ⟨_, rfl, ?_⟩
    | refine ⟨_, if_pos (by first | assumption | omega), ?_⟩
    | refine ⟨_, _, rfl, le_sz rfl, ?_⟩
    | refine ⟨_, _, rfl, rfl, ?_⟩
    | refine ⟨_, _, rfl, if_pos (by first | assumption | omega), ?_⟩
    | refine ⟨_, rfl, rfl, ?_⟩
    | refine ⟨rfl, ?_⟩
    | exact rfl
    | dsimp only)
              · have hall := h
                refine RP.of_no (lfrom_ok hF (n + 1) y 0 _ _) fun v S1 ⟨e1, e2⟩ => ?_
                subst e1; subst e2
                cases y with
                | int k =>
                  repeat' (first
    | with_reducible refine rp_var (by with_unfolding_all rfl) ?_
    | refine ⟨_, q0, ?_⟩
    | refine ⟨_, q1, ?_⟩
    | refine ⟨_, q2, ?_⟩
    | with_reducible refine rp_lit ?_
    | with_reducible refine rp_glb ?_
    | with_reducible refine rp_bin ?_
    | with_reducible refine rp_cmp ?_
    | with_reducible refine rp_cons ?_
    | with_reducible refine rp_nil ?_
    | with_reducible refine rp_idx ?_
    | with_reducible refine rp_call ?_
    | with_reducible refine rp_bi ?_
    | with_reducible refine rp_fz ?_
    | with_reducible refine rp_and ?_
    | with_reducible refine rp_or ?_
    | with_reducible refine rp_not ?_
    | with_reducible refine rp_ifT ?_
    | with_reducible refine rp_slc ?_
    | with_reducible refine rp_p0 ?_
    | with_reducible refine rp_p1 ?_
    | with_reducible refine rp_tup ?_
    | with_reducible refine rp_lst ?_
    | with_reducible refine rp_isi ?_
    | with_reducible refine rp_isit ?_
    | with_reducible refine rp_mth ?_
    | with_reducible refine rp_cmp2 ?_
    | with_reducible refine rp_neg ?_
    | with_reducible refine rp_t0 ?_
    | with_reducible refine rp_t1 ?_
    | with_reducible refine rp_lc ?_
    | with_reducible refine rp_lcL ?_
    | with_reducible refine rp_lstL ?_
    | with_reducible refine rp_catL ?_
    | with_reducible refine rp_listL ?_
    | with_reducible refine rp_of ?_
    | with_reducible refine rp_r1 ?_
    | with_reducible refine rp_r2 ?_
    | with_reducible refine rp_enum ?_
    | with_reducible refine rp_zip ?_
    | with_reducible refine op_nil ?_
    | with_reducible refine op_norm (by simp only [List.set_cons_succ, List.set_cons_zero, List.map_cons, List.map_nil, List.cons_append, List.nil_append]; rfl) (op_cons ?_)
    | with_reducible refine op_cons ?_
    | with_reducible refine op_asg ?_
    | with_reducible refine op_ifT ?_
    | with_reducible refine rt_and ?_
    | with_reducible refine rt_or ?_
    | with_reducible refine rt_not ?_
    | with_reducible refine rt_of ?_
    | with_reducible refine op_ret ?_
    | with_reducible refine op_new ?_
    | with_reducible refine op_app (by with_unfolding_all rfl) (by first | exact st_get | exact st_get2) ?_
    | with_reducible refine op_aug (by with_unfolding_all rfl) (by decide) ?_
    | with_reducible refine op_for ?_
    | with_reducible refine op_par ?_
    | with_reducible refine op_tp ?_
    | with_reducible refine op_seti (by with_unfolding_all rfl) ?_
    | with_reducible refine op_expr ?_
    | with_reducible refine op_doc ?_
    | with_reducible refine op_pass ?_
    | with_reducible refine op_retN ?_
    | with_reducible refine fin0 ?_
    | with_reducible refine fin1 ?_
    | with_reducible refine fino1 ?_
    | with_reducible refine fin2 ?_
    | refine ⟨_, _, _, _, rfl, st_get, lt_sz (by first | omega | (simp only [List.length_map, List.length_append, List.length_cons, List.length_nil]; omega)), st_set, ?_⟩
    | refine ⟨_, rfl, rngOk_in (by omega) (by omega), ?_⟩
    | refine ⟨_, src_live, ?_⟩
    | refine ⟨_, bi_live rfl, ?_⟩
    | (refine ⟨_, rfl, fun h => ?_, fun h => ?_⟩ <;> try (first | exact absurd h (by decide) | exact (f_t h).elim | exact (t_f h).elim))
    | refine ⟨_, rfl, ?_⟩
    | refine ⟨_, if_pos (by first | assumption | omega), ?_⟩
    | refine ⟨_, _, rfl, le_sz rfl, ?_⟩
    | refine ⟨_, _, rfl, rfl, ?_⟩
    | refine ⟨_, _, rfl, if_pos (by first | assumption | omega), ?_⟩
    | refine ⟨_, rfl, rfl, ?_⟩
    | refine ⟨rfl, ?_⟩
    | exact rfl
    | dsimp only)
                  · have hk := h
                    have hk' : 0 ≤ k := by
                      simp only [fromB, Bool.and_eq_true, decide_eq_true_eq] at hk
                      exact hk.1
                    refine rp_lcI (fun c => .str (strD (fstD c))) (by omega) (fun x hx acc => ?_) ?_
                    · refine ⟨_, rfl, ?_⟩
                      repeat' (first
    | with_reducible refine rp_var (by with_unfolding_all rfl) ?_
    | refine ⟨_, col_at0 (List.all_eq_true.mp hall x hx), ?_⟩
    | with_reducible refine rp_lit ?_
    | with_reducible refine rp_glb ?_
    | with_reducible refine rp_bin ?_
    | with_reducible refine rp_cmp ?_
    | with_reducible refine rp_cons ?_
    | with_reducible refine rp_nil ?_
    | with_reducible refine rp_idx ?_
    | with_reducible refine rp_call ?_
    | with_reducible refine rp_bi ?_
    | with_reducible refine rp_fz ?_
    | with_reducible refine rp_and ?_
    | with_reducible refine rp_or ?_
    | with_reducible refine rp_not ?_
    | with_reducible refine rp_ifT ?_
    | with_reducible refine rp_slc ?_
    | with_reducible refine rp_p0 ?_
    | with_reducible refine rp_p1 ?_
    | with_reducible refine rp_tup ?_
    | with_reducible refine rp_lst ?_
    | with_reducible refine rp_isi ?_
    | with_reducible refine rp_isit ?_
    | with_reducible refine rp_mth ?_
    | with_reducible refine rp_cmp2 ?_
    | with_reducible refine rp_neg ?_
    | with_reducible refine rp_t0 ?_
    | with_reducible refine rp_t1 ?_
    | with_reducible refine rp_lc ?_
    | with_reducible refine rp_lcL ?_
    | with_reducible refine rp_lstL ?_
    | with_reducible refine rp_catL ?_
    | with_reducible refine rp_listL ?_
    | with_reducible refine rp_of ?_
    | with_reducible refine rp_r1 ?_
    | with_reducible refine rp_r2 ?_
    | with_reducible refine rp_enum ?_
    | with_reducible refine rp_zip ?_
    | with_reducible refine op_nil ?_
    | with_reducible refine op_norm (by simp only [List.set_cons_succ, List.set_cons_zero, List.map_cons, List.map_nil, List.cons_append, List.nil_append]; rfl) (op_cons ?_)
    | with_reducible refine op_cons ?_
    | with_reducible refine op_asg ?_
    | with_reducible refine op_ifT ?_
    | with_reducible refine rt_and ?_
    | with_reducible refine rt_or ?_
    | with_reducible refine rt_not ?_
    | with_reducible refine rt_of ?_
    | with_reducible refine op_ret ?_
    | with_reducible refine op_new ?_
    | with_reducible refine op_app (by with_unfolding_all rfl) (by first | exact st_get | exact st_get2) ?_
    | with_reducible refine op_aug (by with_unfolding_all rfl) (by decide) ?_
    | with_reducible refine op_for ?_
    | with_reducible refine op_par ?_
    | with_reducible refine op_tp ?_
    | with_reducible refine op_seti (by with_unfolding_all rfl) ?_
    | with_reducible refine op_expr ?_
    | with_reducible refine op_doc ?_
    | with_reducible refine op_pass ?_
    | with_reducible refine op_retN ?_
    | with_reducible refine fin0 ?_
    | with_reducible refine fin1 ?_
    | with_reducible refine fino1 ?_
    | with_reducible refine fin2 ?_
    | refine ⟨_, _, _, _, rfl, st_get, lt_sz (by first | omega | (simp only [List.length_map, List.length_append, List.length_cons, List.length_nil]; omega)), st_set, ?_⟩
    | refine ⟨_, rfl, rngOk_in (by omega) (by omega), ?_⟩
    | refine ⟨_, src_live, ?_⟩
    | refine ⟨_, bi_live rfl, ?_⟩
    | (refine ⟨_, rfl, fun h => ?_, fun h => ?_⟩ <;> try (first | exact absurd h (by decide) | exact (f_t h).elim | exact (t_f h).elim))
    | refine ⟨_, rfl, ?_⟩
    | refine ⟨_, if_pos (by first | assumption | omega), ?_⟩
    | refine ⟨_, _, rfl, le_sz rfl, ?_⟩
    | refine ⟨_, _, rfl, rfl, ?_⟩
    | refine ⟨_, _, rfl, if_pos (by first | assumption | omega), ?_⟩
    | refine ⟨_, rfl, rfl, ?_⟩
    | refine ⟨rfl, ?_⟩
    | exact rfl
    | dsimp only)
                    · have en : (cs.map fun c => D.str (strD (fstD c))) = (namesOf cs).map .str := by rw [namesOf, List.map_map]; rfl
                      have hnl : (namesOf cs).length = cs.length := by rw [namesOf, List.length_map]
                      have e5 : lensetD (.lst ((namesOf cs).map .str)) = some (.int ((dset (namesOf cs)).length : Nat)) := lenset_strs (by omega) _ (.inr rfl)
                      have e6 : cmpD .eq (.int ((dset (namesOf cs)).length : Nat)) (.int ((namesOf cs).map D.str).length) = some (decide (namesOf cs).Nodup) := by
                        simp only [cmpD, scalD, Bool.true_or, if_true, List.length_map, lset_eq]
                      rw [en]
                      repeat' (first
    | with_reducible refine rp_var (by with_unfolding_all rfl) ?_
    | refine ⟨_, q0, ?_⟩
    | refine ⟨_, q1, ?_⟩
    | refine ⟨_, q2, ?_⟩
    | refine ⟨_, e5, ?_⟩
    | refine ⟨_, e6, ?_⟩
    | with_reducible refine rp_lit ?_
    | with_reducible refine rp_glb ?_
    | with_reducible refine rp_bin ?_
    | with_reducible refine rp_cmp ?_
    | with_reducible refine rp_cons ?_
    | with_reducible refine rp_nil ?_
    | with_reducible refine rp_idx ?_
    | with_reducible refine rp_call ?_
    | with_reducible refine rp_bi ?_
    | with_reducible refine rp_fz ?_
    | with_reducible refine rp_and ?_
    | with_reducible refine rp_or ?_
    | with_reducible refine rp_not ?_
    | with_reducible refine rp_ifT ?_
    | with_reducible refine rp_slc ?_
    | with_reducible refine rp_p0 ?_
    | with_reducible refine rp_p1 ?_
    | with_reducible refine rp_tup ?_
    | with_reducible refine rp_lst ?_
    | with_reducible refine rp_isi ?_
    | with_reducible refine rp_isit ?_
    | with_reducible refine rp_mth ?_
    | with_reducible refine rp_cmp2 ?_
    | with_reducible refine rp_neg ?_
    | with_reducible refine rp_t0 ?_
    | with_reducible refine rp_t1 ?_
    | with_reducible refine rp_lc ?_
    | with_reducible refine rp_lcL ?_
    | with_reducible refine rp_lstL ?_
    | with_reducible refine rp_catL ?_
    | with_reducible refine rp_listL ?_
    | with_reducible refine rp_of ?_
    | with_reducible refine rp_r1 ?_
    | with_reducible refine rp_r2 ?_
    | with_reducible refine rp_enum ?_
    | with_reducible refine rp_zip ?_
    | with_reducible refine op_nil ?_
    | with_reducible refine op_norm (by simp only [List.set_cons_succ, List.set_cons_zero, List.map_cons, List.map_nil, List.cons_append, List.nil_append]; rfl) (op_cons ?_)
    | with_reducible refine op_cons ?_
    | with_reducible refine op_asg ?_
    | with_reducible refine op_ifT ?_
    | with_reducible refine rt_and ?_
    | with_reducible refine rt_or ?_
    | with_reducible refine rt_not ?_
    | with_reducible refine rt_of ?_
    | with_reducible refine op_ret ?_
    | with_reducible refine op_new ?_
    | with_reducible refine op_app (by with_unfolding_all rfl) (by first | exact st_get | exact st_get2) ?_
    | with_reducible refine op_aug (by with_unfolding_all rfl) (by decide) ?_
    | with_reducible refine op_for ?_
    | with_reducible refine op_par ?_
    | with_reducible refine op_tp ?_
    | with_reducible refine op_seti (by with_unfolding_all rfl) ?_
    | with_reducible refine op_expr ?_
    | with_reducible refine op_doc ?_
    | with_reducible refine op_pass ?_
    | with_reducible refine op_retN ?_
    | with_reducible refine fin0 ?_
    | with_reducible refine fin1 ?_
    | with_reducible refine fino1 ?_
    | with_reducible refine fin2 ?_
    | refine ⟨_, _, _, _, rfl, st_get, lt_sz (by first | omega | (simp only [List.length_map, List.length_append, List.length_cons, List.length_nil]; omega)), st_set, ?_⟩
    | refine ⟨_, rfl, rngOk_in (by omega) (by omega), ?_⟩
    | refine ⟨_, src_live, ?_⟩
    | refine ⟨_, bi_live rfl, ?_⟩
    | (refine ⟨_, rfl, fun h => ?_, fun h => ?_⟩ <;> try (first | exact absurd h (by decide) | exact (f_t h).elim | exact (t_f h).elim))
    | refine ⟨_, rfl, ?_⟩
    | refine ⟨_, if_pos (by first | assumption | omega), ?_⟩
    | refine ⟨_, _, rfl, le_sz rfl, ?_⟩
    | refine ⟨_, _, rfl, rfl, ?_⟩
    | refine ⟨_, _, rfl, if_pos (by first | assumption | omega), ?_⟩
    | refine ⟨_, rfl, rfl, ?_⟩
    | refine ⟨rfl, ?_⟩
    | exact rfl
    | dsimp only)
                      · have ec := cut_to cs hk'
                        rw [ec]
                        refine rp_lcI (fun x => .bl (trdB x)) (by rw [List.length_take]; omega) (fun x hxx acc => ?_) ?_
                        · refine ⟨_, rfl, ?_⟩
                          repeat' (first
    | with_reducible refine rp_var (by with_unfolding_all rfl) ?_
    | refine ⟨_, col_at2 (List.all_eq_true.mp hall x (List.mem_of_mem_take hxx)), ?_⟩
    | with_reducible refine rp_lit ?_
    | with_reducible refine rp_glb ?_
    | with_reducible refine rp_bin ?_
    | with_reducible refine rp_cmp ?_
    | with_reducible refine rp_cons ?_
    | with_reducible refine rp_nil ?_
    | with_reducible refine rp_idx ?_
    | with_reducible refine rp_call ?_
    | with_reducible refine rp_bi ?_
    | with_reducible refine rp_fz ?_
    | with_reducible refine rp_and ?_
    | with_reducible refine rp_or ?_
    | with_reducible refine rp_not ?_
    | with_reducible refine rp_ifT ?_
    | with_reducible refine rp_slc ?_
    | with_reducible refine rp_p0 ?_
    | with_reducible refine rp_p1 ?_
    | with_reducible refine rp_tup ?_
    | with_reducible refine rp_lst ?_
    | with_reducible refine rp_isi ?_
    | with_reducible refine rp_isit ?_
    | with_reducible refine rp_mth ?_
    | with_reducible refine rp_cmp2 ?_
    | with_reducible refine rp_neg ?_
    | with_reducible refine rp_t0 ?_
    | with_reducible refine rp_t1 ?_
    | with_reducible refine rp_lc ?_
    | with_reducible refine rp_lcL ?_
    | with_reducible refine rp_lstL ?_
    | with_reducible refine rp_catL ?_
    | with_reducible refine rp_listL ?_
    | with_reducible refine rp_of ?_
    | with_reducible refine rp_r1 ?_
    | with_reducible refine rp_r2 ?_
    | with_reducible refine rp_enum ?_
    | with_reducible refine rp_zip ?_
    | with_reducible refine op_nil ?_
    | with_reducible refine op_norm (by simp only [List.set_cons_succ, List.set_cons_zero, List.map_cons, List.map_nil, List.cons_append, List.nil_append]; rfl) (op_cons ?_)
    | with_reducible refine op_cons ?_
    | with_reducible refine op_asg ?_
    | with_reducible refine op_ifT ?_
    | with_reducible refine rt_and ?_
    | with_reducible refine rt_or ?_
    | with_reducible refine rt_not ?_
    | with_reducible refine rt_of ?_
    | with_reducible refine op_ret ?_
    | with_reducible refine op_new ?_
    | with_reducible refine op_app (by with_unfolding_all rfl) (by first | exact st_get | exact st_get2) ?_
    | with_reducible refine op_aug (by with_unfolding_all rfl) (by decide) ?_
    | with_reducible refine op_for ?_
    | with_reducible refine op_par ?_
    | with_reducible refine op_tp ?_
    | with_reducible refine op_seti (by with_unfolding_all rfl) ?_
    | with_reducible refine op_expr ?_
    | with_reducible refine op_doc ?_
    | with_reducible refine op_pass ?_
    | with_reducible refine op_retN ?_
    | with_reducible refine fin0 ?_
    | with_reducible refine fin1 ?_
    | with_reducible refine fino1 ?_
    | with_reducible refine fin2 ?_
    | refine ⟨_, _, _, _, rfl, st_get, lt_sz (by first | omega | (simp only [List.length_map, List.length_append, List.length_cons, List.length_nil]; omega)), st_set, ?_⟩
    | refine ⟨_, rfl, rngOk_in (by omega) (by omega), ?_⟩
    | refine ⟨_, src_live, ?_⟩
    | refine ⟨_, bi_live rfl, ?_⟩
    | (refine ⟨_, rfl, fun h => ?_, fun h => ?_⟩ <;> try (first | exact absurd h (by decide) | exact (f_t h).elim | exact (t_f h).elim))
    | refine ⟨_, rfl, ?_⟩
    | refine ⟨_, if_pos (by first | assumption | omega), ?_⟩
    | refine ⟨_, _, rfl, le_sz rfl, ?_⟩
    | refine ⟨_, _, rfl, rfl, ?_⟩
    | refine ⟨_, _, rfl, if_pos (by first | assumption | omega), ?_⟩
    | refine ⟨_, rfl, rfl, ?_⟩
    | refine ⟨rfl, ?_⟩
    | exact rfl
    | dsimp only)
                        · repeat' (first
    | with_reducible refine rp_var (by with_unfolding_all rfl) ?_
    | refine ⟨_, any_bls trdB (cs.take k.toNat), ?_⟩
    | with_reducible refine rp_lit ?_
    | with_reducible refine rp_glb ?_
    | with_reducible refine rp_bin ?_
    | with_reducible refine rp_cmp ?_
    | with_reducible refine rp_cons ?_
    | with_reducible refine rp_nil ?_
    | with_reducible refine rp_idx ?_
    | with_reducible refine rp_call ?_
    | with_reducible refine rp_bi ?_
    | with_reducible refine rp_fz ?_
    | with_reducible refine rp_and ?_
    | with_reducible refine rp_or ?_
    | with_reducible refine rp_not ?_
    | with_reducible refine rp_ifT ?_
    | with_reducible refine rp_slc ?_
    | with_reducible refine rp_p0 ?_
    | with_reducible refine rp_p1 ?_
    | with_reducible refine rp_tup ?_
    | with_reducible refine rp_lst ?_
    | with_reducible refine rp_isi ?_
    | with_reducible refine rp_isit ?_
    | with_reducible refine rp_mth ?_
    | with_reducible refine rp_cmp2 ?_
    | with_reducible refine rp_neg ?_
    | with_reducible refine rp_t0 ?_
    | with_reducible refine rp_t1 ?_
    | with_reducible refine rp_lc ?_
    | with_reducible refine rp_lcL ?_
    | with_reducible refine rp_lstL ?_
    | with_reducible refine rp_catL ?_
    | with_reducible refine rp_listL ?_
    | with_reducible refine rp_of ?_
    | with_reducible refine rp_r1 ?_
    | with_reducible refine rp_r2 ?_
    | with_reducible refine rp_enum ?_
    | with_reducible refine rp_zip ?_
    | with_reducible refine op_nil ?_
    | with_reducible refine op_norm (by simp only [List.set_cons_succ, List.set_cons_zero, List.map_cons, List.map_nil, List.cons_append, List.nil_append]; rfl) (op_cons ?_)
    | with_reducible refine op_cons ?_
    | with_reducible refine op_asg ?_
    | with_reducible refine op_ifT ?_
    | with_reducible refine rt_and ?_
    | with_reducible refine rt_or ?_
    | with_reducible refine rt_not ?_
    | with_reducible refine rt_of ?_
    | with_reducible refine op_ret ?_
    | with_reducible refine op_new ?_
    | with_reducible refine op_app (by with_unfolding_all rfl) (by first | exact st_get | exact st_get2) ?_
    | with_reducible refine op_aug (by with_unfolding_all rfl) (by decide) ?_
    | with_reducible refine op_for ?_
    | with_reducible refine op_par ?_
    | with_reducible refine op_tp ?_
    | with_reducible refine op_seti (by with_unfolding_all rfl) ?_
    | with_reducible refine op_expr ?_
    | with_reducible refine op_doc ?_
    | with_reducible refine op_pass ?_
    | with_reducible refine op_retN ?_
    | with_reducible refine fin0 ?_
    | with_reducible refine fin1 ?_
    | with_reducible refine fino1 ?_
    | with_reducible refine fin2 ?_
    | refine ⟨_, _, _, _, rfl, st_get, lt_sz (by first | omega | (simp only [List.length_map, List.length_append, List.length_cons, List.length_nil]; omega)), st_set, ?_⟩
    | refine ⟨_, rfl, rngOk_in (by omega) (by omega), ?_⟩
    | refine ⟨_, src_live, ?_⟩
    | refine ⟨_, bi_live rfl, ?_⟩
    | (refine ⟨_, rfl, fun h => ?_, fun h => ?_⟩ <;> try (first | exact absurd h (by decide) | exact (f_t h).elim | exact (t_f h).elim))
    | refine ⟨_, rfl, ?_⟩
    | refine ⟨_, if_pos (by first | assumption | omega), ?_⟩
    | refine ⟨_, _, rfl, le_sz rfl, ?_⟩
    | refine ⟨_, _, rfl, rfl, ?_⟩
    | refine ⟨_, _, rfl, if_pos (by first | assumption | omega), ?_⟩
    | refine ⟨_, rfl, rfl, ?_⟩
    | refine ⟨rfl, ?_⟩
    | exact rfl
    | dsimp only)
                          simp [tabB, *, intD]
                      · simp [tabB, *]
                  · simp [tabB, *]
                | _ =>
                  repeat' (first
    | with_reducible refine rp_var (by with_unfolding_all rfl) ?_
    | with_reducible refine rp_lit ?_
    | with_reducible refine rp_glb ?_
    | with_reducible refine rp_bin ?_
    | with_reducible refine rp_cmp ?_
    | with_reducible refine rp_cons ?_
    | with_reducible refine rp_nil ?_
    | with_reducible refine rp_idx ?_
    | with_reducible refine rp_call ?_
    | with_reducible refine rp_bi ?_
    | with_reducible refine rp_fz ?_
    | with_reducible refine rp_and ?_
    | with_reducible refine rp_or ?_
    | with_reducible refine rp_not ?_
    | with_reducible refine rp_ifT ?_
    | with_reducible refine rp_slc ?_
    | with_reducible refine rp_p0 ?_
    | with_reducible refine rp_p1 ?_
    | with_reducible refine rp_tup ?_
    | with_reducible refine rp_lst ?_
    | with_reducible refine rp_isi ?_
    | with_reducible refine rp_isit ?_
    | with_reducible refine rp_mth ?_
    | with_reducible refine rp_cmp2 ?_
    | with_reducible refine rp_neg ?_
    | with_reducible refine rp_t0 ?_
    | with_reducible refine rp_t1 ?_
    | with_reducible refine rp_lc ?_
    | with_reducible refine rp_lcL ?_
    | with_reducible refine rp_lstL ?_
    | with_reducible refine rp_catL ?_
    | with_reducible refine rp_listL ?_
    | with_reducible refine rp_of ?_
    | with_reducible refine rp_r1 ?_
    | with_reducible refine rp_r2 ?_
    | with_reducible refine rp_enum ?_
    | with_reducible refine rp_zip ?_
    | with_reducible refine op_nil ?_
    | with_reducible refine op_norm (by simp only [List.set_cons_succ, List.set_cons_zero, List.map_cons, List.map_nil, List.cons_append, List.nil_append]; rfl) (op_cons ?_)
    | with_reducible refine op_cons ?_
    | with_reducible refine op_asg ?_
    | with_reducible refine op_ifT ?_
    | with_reducible refine rt_and ?_
    | with_reducible refine rt_or ?_
    | with_reducible refine rt_not ?_
    | with_reducible refine rt_of ?_
    | with_reducible refine op_ret ?_
    | with_reducible refine op_new ?_
    | with_reducible refine op_app (by with_unfolding_all rfl) (by first | exact st_get | exact st_get2) ?_
    | with_reducible refine op_aug (by with_unfolding_all rfl) (by decide) ?_
    | with_reducible refine op_for ?_
    | with_reducible refine op_par ?_
    | with_reducible refine op_tp ?_
    | with_reducible refine op_seti (by with_unfolding_all rfl) ?_
    | with_reducible refine op_expr ?_
    | with_reducible refine op_doc ?_
    | with_reducible refine op_pass ?_
    | with_reducible refine op_retN ?_
    | with_reducible refine fin0 ?_
    | with_reducible refine fin1 ?_
    | with_reducible refine fino1 ?_
    | with_reducible refine fin2 ?_
    | refine ⟨_, _, _, _, rfl, st_get, lt_sz (by first | omega | (simp only [List.length_map, List.length_append, List.length_cons, List.length_nil]; omega)), st_set, ?_⟩
    | refine ⟨_, rfl, rngOk_in (by omega) (by omega), ?_⟩
    | refine ⟨_, src_live, ?_⟩
    | refine ⟨_, bi_live rfl, ?_⟩
    | (refine ⟨_, rfl, fun h => ?_, fun h => ?_⟩ <;> try (first | exact absurd h (by decide) | exact (f_t h).elim | exact (t_f h).elim))
    | refine ⟨_, rfl, ?_⟩
    | refine ⟨_, if_pos (by first | assumption | omega), ?_⟩
    | refine ⟨_, _, rfl, le_sz rfl, ?_⟩
    | refine ⟨_, _, rfl, rfl, ?_⟩
    | refine ⟨_, _, rfl, if_pos (by first | assumption | omega), ?_⟩
    | refine ⟨_, rfl, rfl, ?_⟩
    | refine ⟨rfl, ?_⟩
    | exact rfl
    | dsimp only)
                  simp [tabB, fromB]
              · simp [tabB, *]
          · have h14 : ¬ (1 ≤ cs.length ∧ cs.length ≤ 4) := by
              simp only [fromB, Bool.and_eq_false_iff, decide_eq_false_iff_not] at h
              omega
            have : (decide (1 ≤ cs.length) && decide (cs.length ≤ 4)) = false := by
              rw [Bool.and_eq_false_iff]
              simp only [decide_eq_false_iff_not]
              omega
            simp [tabB, this]
        · simp [tabB, *]
      | _ =>
        repeat' (first
    | with_reducible refine rp_var (by with_unfolding_all rfl) ?_
    | refine ⟨_, q0, ?_⟩
    | refine ⟨_, q1, ?_⟩
    | refine ⟨_, q2, ?_⟩
    | with_reducible refine rp_lit ?_
    | with_reducible refine rp_glb ?_
    | with_reducible refine rp_bin ?_
    | with_reducible refine rp_cmp ?_
    | with_reducible refine rp_cons ?_
    | with_reducible refine rp_nil ?_
    | with_reducible refine rp_idx ?_
    | with_reducible refine rp_call ?_
    | with_reducible refine rp_bi ?_
    | with_reducible refine rp_fz ?_
    | with_reducible refine rp_and ?_
    | with_reducible refine rp_or ?_
    | with_reducible refine rp_not ?_
    | with_reducible refine rp_ifT ?_
    | with_reducible refine rp_slc ?_
    | with_reducible refine rp_p0 ?_
    | with_reducible refine rp_p1 ?_
    | with_reducible refine rp_tup ?_
    | with_reducible refine rp_lst ?_
    | with_reducible refine rp_isi ?_
    | with_reducible refine rp_isit ?_
    | with_reducible refine rp_mth ?_
    | with_reducible refine rp_cmp2 ?_
    | with_reducible refine rp_neg ?_
    | with_reducible refine rp_t0 ?_
    | with_reducible refine rp_t1 ?_
    | with_reducible refine rp_lc ?_
    | with_reducible refine rp_lcL ?_
    | with_reducible refine rp_lstL ?_
    | with_reducible refine rp_catL ?_
    | with_reducible refine rp_listL ?_
    | with_reducible refine rp_of ?_
    | with_reducible refine rp_r1 ?_
    | with_reducible refine rp_r2 ?_
    | with_reducible refine rp_enum ?_
    | with_reducible refine rp_zip ?_
    | with_reducible refine op_nil ?_
    | with_reducible refine op_norm (by simp only [List.set_cons_succ, List.set_cons_zero, List.map_cons, List.map_nil, List.cons_append, List.nil_append]; rfl) (op_cons ?_)
    | with_reducible refine op_cons ?_
    | with_reducible refine op_asg ?_
    | with_reducible refine op_ifT ?_
    | with_reducible refine rt_and ?_
    | with_reducible refine rt_or ?_
    | with_reducible refine rt_not ?_
    | with_reducible refine rt_of ?_
    | with_reducible refine op_ret ?_
    | with_reducible refine op_new ?_
    | with_reducible refine op_app (by with_unfolding_all rfl) (by first | exact st_get | exact st_get2) ?_
    | with_reducible refine op_aug (by with_unfolding_all rfl) (by decide) ?_
    | with_reducible refine op_for ?_
    | with_reducible refine op_par ?_
    | with_reducible refine op_tp ?_
    | with_reducible refine op_seti (by with_unfolding_all rfl) ?_
    | with_reducible refine op_expr ?_
    | with_reducible refine op_doc ?_
    | with_reducible refine op_pass ?_
    | with_reducible refine op_retN ?_
    | with_reducible refine fin0 ?_
    | with_reducible refine fin1 ?_
    | with_reducible refine fino1 ?_
    | with_reducible refine fin2 ?_
    | refine ⟨_, _, _, _, rfl, st_get, lt_sz (by first | omega | (simp only [List.length_map, List.length_append, List.length_cons, List.length_nil]; omega)), st_set, ?_⟩
    | refine ⟨_, rfl, rngOk_in (by omega) (by omega), ?_⟩
    | refine ⟨_, src_live, ?_⟩
    | refine ⟨_, bi_live rfl, ?_⟩
    | (refine ⟨_, rfl, fun h => ?_, fun h => ?_⟩ <;> try (first | exact absurd h (by decide) | exact (f_t h).elim | exact (t_f h).elim))
    | refine ⟨_, rfl, ?_⟩
    | refine ⟨_, if_pos (by first | assumption | omega), ?_⟩
    | refine ⟨_, _, rfl, le_sz rfl, ?_⟩
    | refine ⟨_, _, rfl, rfl, ?_⟩
    | refine ⟨_, _, rfl, if_pos (by first | assumption | omega), ?_⟩
    | refine ⟨_, rfl, rfl, ?_⟩
    | refine ⟨rfl, ?_⟩
    | exact rfl
    | dsimp only)
        all_goals (try simp [tabB, *])
    · have h3' : deq (.int xs.length) (.int 3) = false := by
        rw [deq]; exact beq_eq_false_iff_ne.mpr h3
      have e1 : cmpD .ne (.int xs.length) (.int 3) = some true := by simp only [cmpD, scalD, Bool.true_or, if_true, h3', Bool.not_false]
      rw [tabB_len h3]
      repeat' (first
    | with_reducible refine rp_var (by with_unfolding_all rfl) ?_
    | refine ⟨_, e1, ?_⟩
    | with_reducible refine rp_lit ?_
    | with_reducible refine rp_glb ?_
    | with_reducible refine rp_bin ?_
    | with_reducible refine rp_cmp ?_
    | with_reducible refine rp_cons ?_
    | with_reducible refine rp_nil ?_
    | with_reducible refine rp_idx ?_
    | with_reducible refine rp_call ?_
    | with_reducible refine rp_bi ?_
    | with_reducible refine rp_fz ?_
    | with_reducible refine rp_and ?_
    | with_reducible refine rp_or ?_
    | with_reducible refine rp_not ?_
    | with_reducible refine rp_ifT ?_
    | with_reducible refine rp_slc ?_
    | with_reducible refine rp_p0 ?_
    | with_reducible refine rp_p1 ?_
    | with_reducible refine rp_tup ?_
    | with_reducible refine rp_lst ?_
    | with_reducible refine rp_isi ?_
    | with_reducible refine rp_isit ?_
    | with_reducible refine rp_mth ?_
    | with_reducible refine rp_cmp2 ?_
    | with_reducible refine rp_neg ?_
    | with_reducible refine rp_t0 ?_
    | with_reducible refine rp_t1 ?_
    | with_reducible refine rp_lc ?_
    | with_reducible refine rp_lcL ?_
    | with_reducible refine rp_lstL ?_
    | with_reducible refine rp_catL ?_
    | with_reducible refine rp_listL ?_
    | with_reducible refine rp_of ?_
    | with_reducible refine rp_r1 ?_
    | with_reducible refine rp_r2 ?_
    | with_reducible refine rp_enum ?_
    | with_reducible refine rp_zip ?_
    | with_reducible refine op_nil ?_
    | with_reducible refine op_norm (by simp only [List.set_cons_succ, List.set_cons_zero, List.map_cons, List.map_nil, List.cons_append, List.nil_append]; rfl) (op_cons ?_)
    | with_reducible refine op_cons ?_
    | with_reducible refine op_asg ?_
    | with_reducible refine op_ifT ?_
    | with_reducible refine rt_and ?_
    | with_reducible refine rt_or ?_
    | with_reducible refine rt_not ?_
    | with_reducible refine rt_of ?_
    | with_reducible refine op_ret ?_
    | with_reducible refine op_new ?_
    | with_reducible refine op_app (by with_unfolding_all rfl) (by first | exact st_get | exact st_get2) ?_
    | with_reducible refine op_aug (by with_unfolding_all rfl) (by decide) ?_
    | with_reducible refine op_for ?_
    | with_reducible refine op_par ?_
    | with_reducible refine op_tp ?_
    | with_reducible refine op_seti (by with_unfolding_all rfl) ?_
    | with_reducible refine op_expr ?_
    | with_reducible refine op_doc ?_
    | with_reducible refine op_pass ?_
    | with_reducible refine op_retN ?_
    | with_reducible refine fin0 ?_
    | with_reducible refine fin1 ?_
    | with_reducible refine fino1 ?_
    | with_reducible refine fin2 ?_
    | refine ⟨_, _, _, _, rfl, st_get, lt_sz (by first | omega | (simp only [List.length_map, List.length_append, List.length_cons, List.length_nil]; omega)), st_set, ?_⟩
    | refine ⟨_, rfl, rngOk_in (by omega) (by omega), ?_⟩
    | refine ⟨_, src_live, ?_⟩
    | refine ⟨_, bi_live rfl, ?_⟩
    | (refine ⟨_, rfl, fun h => ?_, fun h => ?_⟩ <;> try (first | exact absurd h (by decide) | exact (f_t h).elim | exact (t_f h).elim))
    | refine ⟨_, rfl, ?_⟩
    | refine ⟨_, if_pos (by first | assumption | omega), ?_⟩
    | refine ⟨_, _, rfl, le_sz rfl, ?_⟩
    | refine ⟨_, _, rfl, rfl, ?_⟩
    | refine ⟨_, _, rfl, if_pos (by first | assumption | omega), ?_⟩
    | refine ⟨_, rfl, rfl, ?_⟩
    | refine ⟨rfl, ?_⟩
    | exact rfl
    | dsimp only)
      refine ⟨fun _ => ?_, fun h => by cases h⟩
      repeat' (first
    | with_reducible refine rp_var (by with_unfolding_all rfl) ?_
    | with_reducible refine rp_lit ?_
    | with_reducible refine rp_glb ?_
    | with_reducible refine rp_bin ?_
    | with_reducible refine rp_cmp ?_
    | with_reducible refine rp_cons ?_
    | with_reducible refine rp_nil ?_
    | with_reducible refine rp_idx ?_
    | with_reducible refine rp_call ?_
    | with_reducible refine rp_bi ?_
    | with_reducible refine rp_fz ?_
    | with_reducible refine rp_and ?_
    | with_reducible refine rp_or ?_
    | with_reducible refine rp_not ?_
    | with_reducible refine rp_ifT ?_
    | with_reducible refine rp_slc ?_
    | with_reducible refine rp_p0 ?_
    | with_reducible refine rp_p1 ?_
    | with_reducible refine rp_tup ?_
    | with_reducible refine rp_lst ?_
    | with_reducible refine rp_isi ?_
    | with_reducible refine rp_isit ?_
    | with_reducible refine rp_mth ?_
    | with_reducible refine rp_cmp2 ?_
    | with_reducible refine rp_neg ?_
    | with_reducible refine rp_t0 ?_
    | with_reducible refine rp_t1 ?_
    | with_reducible refine rp_lc ?_
    | with_reducible refine rp_lcL ?_
    | with_reducible refine rp_lstL ?_
    | with_reducible refine rp_catL ?_
    | with_reducible refine rp_listL ?_
    | with_reducible refine rp_of ?_
    | with_reducible refine rp_r1 ?_
    | with_reducible refine rp_r2 ?_
    | with_reducible refine rp_enum ?_
    | with_reducible refine rp_zip ?_
    | with_reducible refine op_nil ?_
    | with_reducible refine op_norm (by simp only [List.set_cons_succ, List.set_cons_zero, List.map_cons, List.map_nil, List.cons_append, List.nil_append]; rfl) (op_cons ?_)
    | with_reducible refine op_cons ?_
    | with_reducible refine op_asg ?_
    | with_reducible refine op_ifT ?_
    | with_reducible refine rt_and ?_
    | with_reducible refine rt_or ?_
    | with_reducible refine rt_not ?_
    | with_reducible refine rt_of ?_
    | with_reducible refine op_ret ?_
    | with_reducible refine op_new ?_
    | with_reducible refine op_app (by with_unfolding_all rfl) (by first | exact st_get | exact st_get2) ?_
    | with_reducible refine op_aug (by with_unfolding_all rfl) (by decide) ?_
    | with_reducible refine op_for ?_
    | with_reducible refine op_par ?_
    | with_reducible refine op_tp ?_
    | with_reducible refine op_seti (by with_unfolding_all rfl) ?_
    | with_reducible refine op_expr ?_
    | with_reducible refine op_doc ?_
    | with_reducible refine op_pass ?_
    | with_reducible refine op_retN ?_
    | with_reducible refine fin0 ?_
    | with_reducible refine fin1 ?_
    | with_reducible refine fino1 ?_
    | with_reducible refine fin2 ?_
    | refine ⟨_, _, _, _, rfl, st_get, lt_sz (by first | omega | (simp only [List.length_map, List.length_append, List.length_cons, List.length_nil]; omega)), st_set, ?_⟩
    | refine ⟨_, rfl, rngOk_in (by omega) (by omega), ?_⟩
    | refine ⟨_, src_live, ?_⟩
    | refine ⟨_, bi_live rfl, ?_⟩
    | (refine ⟨_, rfl, fun h => ?_, fun h => ?_⟩ <;> try (first | exact absurd h (by decide) | exact (f_t h).elim | exact (t_f h).elim))
    | refine ⟨_, rfl, ?_⟩
    | refine ⟨_, if_pos (by first | assumption | omega), ?_⟩
    | refine ⟨_, _, rfl, le_sz rfl, ?_⟩
    | refine ⟨_, _, rfl, rfl, ?_⟩
    | refine ⟨_, _, rfl, if_pos (by first | assumption | omega), ?_⟩
    | refine ⟨_, rfl, rfl, ?_⟩
    | refine ⟨rfl, ?_⟩
    | exact rfl
    | dsimp only)
  | _ => repeat' (first
    | with_reducible refine rp_var (by with_unfolding_all rfl) ?_
    | with_reducible refine rp_lit ?_
    | with_reducible refine rp_glb ?_
    | with_reducible refine rp_bin ?_
    | with_reducible refine rp_cmp ?_
    | with_reducible refine rp_cons ?_
    | with_reducible refine rp_nil ?_
    | with_reducible refine rp_idx ?_
    | with_reducible refine rp_call ?_
    | with_reducible refine rp_bi ?_
    | with_reducible refine rp_fz ?_
    | with_reducible refine rp_and ?_
    | with_reducible refine rp_or ?_
    | with_reducible refine rp_not ?_
    | with_reducible refine rp_ifT ?_
    | with_reducible refine rp_slc ?_
    | with_reducible refine rp_p0 ?_
    | with_reducible refine rp_p1 ?_
    | with_reducible refine rp_tup ?_
    | with_reducible refine rp_lst ?_
    | with_reducible refine rp_isi ?_
    | with_reducible refine rp_isit ?_
    | with_reducible refine rp_mth ?_
    | with_reducible refine rp_cmp2 ?_
    | with_reducible refine rp_neg ?_
    | with_reducible refine rp_t0 ?_
    | with_reducible refine rp_t1 ?_
    | with_reducible refine rp_lc ?_
    | with_reducible refine rp_lcL ?_
    | with_reducible refine rp_lstL ?_
    | with_reducible refine rp_catL ?_
    | with_reducible refine rp_listL ?_
    | with_reducible refine rp_of ?_
    | with_reducible refine rp_r1 ?_
    | with_reducible refine rp_r2 ?_
    | with_reducible refine rp_enum ?_
    | with_reducible refine rp_zip ?_
    | with_reducible refine op_nil ?_
    | with_reducible refine op_norm (by simp only [List.set_cons_succ, List.set_cons_zero, List.map_cons, List.map_nil, List.cons_append, List.nil_append]; rfl) (op_cons ?_)
    | with_reducible refine op_cons ?_
    | with_reducible refine op_asg ?_
    | with_reducible refine op_ifT ?_
    | with_reducible refine rt_and ?_
    | with_reducible refine rt_or ?_
    | with_reducible refine rt_not ?_
    | with_reducible refine rt_of ?_
    | with_reducible refine op_ret ?_
    | with_reducible refine op_new ?_
    | with_reducible refine op_app (by with_unfolding_all rfl) (by first | exact st_get | exact st_get2) ?_
    | with_reducible refine op_aug (by with_unfolding_all rfl) (by decide) ?_
    | with_reducible refine op_for ?_
    | with_reducible refine op_par ?_
    | with_reducible refine op_tp ?_
    | with_reducible refine op_seti (by with_unfolding_all rfl) ?_
    | with_reducible refine op_expr ?_
    | with_reducible refine op_doc ?_
    | with_reducible refine op_pass ?_
    | with_reducible refine op_retN ?_
    | with_reducible refine fin0 ?_
    | with_reducible refine fin1 ?_
    | with_reducible refine fino1 ?_
    | with_reducible refine fin2 ?_
    | refine ⟨_, _, _, _, rfl, st_get, lt_sz (by first | omega | (simp only [List.length_map, List.length_append, List.length_cons, List.length_nil]; omega)), st_set, ?_⟩
    | refine ⟨_, rfl, rngOk_in (by omega) (by omega), ?_⟩
    | refine ⟨_, src_live, ?_⟩
    | refine ⟨_, bi_live rfl, ?_⟩
    | (refine ⟨_, rfl, fun h => ?_, fun h => ?_⟩ <;> try (first | exact absurd h (by decide) | exact (f_t h).elim | exact (t_f h).elim))
    | refine ⟨_, rfl, ?_⟩
    | refine ⟨_, if_pos (by first | assumption | omega), ?_⟩
    | refine ⟨_, _, rfl, le_sz rfl, ?_⟩
    | refine ⟨_, _, rfl, rfl, ?_⟩
    | refine ⟨_, _, rfl, if_pos (by first | assumption | omega), ?_⟩
    | refine ⟨_, rfl, rfl, ?_⟩
    | refine ⟨rfl, ?_⟩
    | exact rfl
    | dsimp only)
end M

/-! a ground by the laws' reading; odd things, spoilt things -/
namespace M
open PySem PySem.Spec PyProof.Rows L2
theorem dle_str (x y : Str) : dle (.str x) (.str y) = decide (x.cps.toList ≤ y.cps.toList) := by
  unfold dle dlt
  rw [toPy, toPy, PySem.W.dataLt_str, PySem.W.not_lt_str]
theorem rises_pw : ∀ ws : List Str, rises ws = true ↔ ws.Pairwise fun a b => a.cps.toList < b.cps.toList
  | [] => by simp [rises]
  | [a] => by simp [rises]
  | a :: b :: r => by
    have ih := rises_pw (b :: r)
    rw [rises, Bool.and_eq_true, ih, decide_eq_true_eq]
    constructor
    · rintro ⟨h1, h2⟩
      refine List.pairwise_cons.mpr ⟨fun c hc => ?_, h2⟩
      rcases List.mem_cons.mp hc with rfl | hc
      · exact h1
      · exact List.lt_trans h1 ((List.pairwise_cons.mp h2).1 c hc)
    · intro h
      obtain ⟨h1, h2⟩ := List.pairwise_cons.mp h
      exact ⟨h1 b List.mem_cons_self, h2⟩
theorem deqs_strs : ∀ zs ws : List Str, deqs (zs.map .str) (ws.map .str) = decide (zs = ws)
  | [], [] => by simp [deqs]
  | [], _ :: _ => by simp [deqs]
  | _ :: _, [] => by simp [deqs]
  | z :: zs, w :: ws => by
    rw [List.map_cons, List.map_cons, deqs, deqs_strs zs ws, deq]
    by_cases h1 : z = w <;> by_cases h2 : zs = ws <;> simp [h1, h2]
theorem sort_rises (ws : List Str) : deq (.lst (((dset ws).map D.str).mergeSort dle)) (.lst (ws.map .str)) = rises ws := by
  rw [deq]
  obtain ⟨L, hL⟩ : ∃ L, L = ((dset ws).map D.str).mergeSort dle := ⟨_, rfl⟩
  rw [← hL]
  have pL : L.Perm ((dset ws).map D.str) := hL ▸ List.mergeSort_perm _ _
  have sL : L.Pairwise fun a b => dle a b = true := hL ▸ List.pairwise_mergeSort dle_trans dle_total _
  have mem : ∀ d, d ∈ L ↔ ∃ w ∈ ws, d = .str w := fun d => by
    rw [pL.mem_iff, List.mem_map]
    constructor
    · rintro ⟨k, hk, rfl⟩
      exact ⟨k, (dset_mem k _).mp hk, rfl⟩
    · rintro ⟨w, hw, rfl⟩
      exact ⟨w, (dset_mem _ _).mpr hw, rfl⟩
  have ndL : L.Nodup := by
    refine pL.nodup_iff.mpr (List.pairwise_map.mpr ((dset_nodup _).imp fun {a b} hab e => hab ?_))
    cases e; rfl
  have eL : L = (L.map strD).map .str := by
    rw [List.map_map]
    conv => lhs; rw [← List.map_id L]
    apply List.map_congr_left
    intro d hd
    obtain ⟨w, -, rfl⟩ := (mem d).mp hd
    rfl
  generalize L.map strD = zs at eL
  clear hL pL
  subst eL
  rw [deqs_strs]
  have zm : ∀ w, w ∈ zs ↔ w ∈ ws := fun w => by
    constructor
    · intro h
      obtain ⟨v, hv, e⟩ := (mem (.str w)).mp (List.mem_map.mpr ⟨w, h, rfl⟩)
      cases e; exact hv
    · intro h
      obtain ⟨v, hv, e⟩ := List.mem_map.mp ((mem (.str w)).mpr ⟨w, h, rfl⟩)
      cases e; exact hv
  have zn : zs.Nodup := (List.pairwise_map.mp ndL).imp fun hab e => hab (by rw [e])
  have zp : zs.Pairwise fun a b => a.cps.toList < b.cps.toList := by
    have h1 := List.pairwise_map.mp sL
    refine (List.Pairwise.and h1 zn).imp fun {a b} ⟨h1, h2⟩ => ?_
    rw [dle_str] at h1
    have h1 := of_decide_eq_true h1
    apply Classical.byContradiction
    intro h
    exact h2 (str_ext (List.le_antisymm h1 (List.not_lt.mp h)))
  cases hr : rises ws with
  | true =>
    have wp := (rises_pw ws).mp hr
    have wn : ws.Nodup := wp.imp fun {a b} h e => by rw [e] at h; exact List.lt_irrefl _ h
    have pm : zs.Perm ws := (List.perm_ext_iff_of_nodup zn wn).mpr zm
    refine decide_eq_true (List.Perm.eq_of_pairwise (le := fun (a b : Str) => a.cps.toList < b.cps.toList) (fun a b _ _ h1 h2 => ?_) zp wp pm)
    exact absurd (List.lt_trans h1 h2) (List.lt_irrefl _)
  | false =>
    refine decide_eq_false fun e => ?_
    rw [e] at zp
    rw [(rises_pw ws).mpr zp] at hr
    cases hr
theorem sortset_strs {ws : List Str} (h : ws.length ≤ 1000) : sortsetD (.lst (ws.map .str)) = some (.lst (((dset ws).map D.str).mergeSort dle)) := by
  have e : sqOf (.lst (ws.map .str)) = some (ws.map .str) := rfl
  unfold sortsetD
  rw [e, Option.bind_some, asStrs_map, Option.bind_some, if_pos]
  have : scanBound = 4096 := by decide +kernel
  omega
theorem lis_ground_ok {T : List Fn} {i iF iN iC iT b : Nat} (hT : T[i]? = some (f__law_is_ground iF iT)) (hTa : T[iT]? = some (f__law_is_table iF iN iC)) (hF : T[iF]? = some f__law_from) (hN : T[iN]? = some f__law_is_name) (hC : T[iC]? = some (f__law_is_column iF iN)) (n : Nat) {d : D} (hd : Nc b d) (hb : b ≤ 1000) (S : St') : RP (FT T (n + 4) i [.t d] S) (Is S (.bl (groundB d))) noE := by
  refine rp_fn hT rfl rfl ?_
  simp only [f__law_is_ground, pad]
  cases hd with
  | @tup ts hx hl =>
    repeat' (first
    | with_reducible refine rp_var (by with_unfolding_all rfl) ?_
    | with_reducible refine rp_lit ?_
    | with_reducible refine rp_glb ?_
    | with_reducible refine rp_bin ?_
    | with_reducible refine rp_cmp ?_
    | with_reducible refine rp_cons ?_
    | with_reducible refine rp_nil ?_
    | with_reducible refine rp_idx ?_
    | with_reducible refine rp_call ?_
    | with_reducible refine rp_bi ?_
    | with_reducible refine rp_fz ?_
    | with_reducible refine rp_and ?_
    | with_reducible refine rp_or ?_
    | with_reducible refine rp_not ?_
    | with_reducible refine rp_ifT ?_
    | with_reducible refine rp_slc ?_
    | with_reducible refine rp_p0 ?_
    | with_reducible refine rp_p1 ?_
    | with_reducible refine rp_tup ?_
    | with_reducible refine rp_lst ?_
    | with_reducible refine rp_isi ?_
    | with_reducible refine rp_isit ?_
    | with_reducible refine rp_mth ?_
    | with_reducible refine rp_cmp2 ?_
    | with_reducible refine rp_neg ?_
    | with_reducible refine rp_t0 ?_
    | with_reducible refine rp_t1 ?_
    | with_reducible refine rp_lc ?_
    | with_reducible refine rp_lcL ?_
    | with_reducible refine rp_lstL ?_
    | with_reducible refine rp_catL ?_
    | with_reducible refine rp_listL ?_
    | with_reducible refine rp_of ?_
    | with_reducible refine rp_r1 ?_
    | with_reducible refine rp_r2 ?_
    | with_reducible refine rp_enum ?_
    | with_reducible refine rp_zip ?_
    | with_reducible refine op_nil ?_
    | with_reducible refine op_norm (by simp only [List.set_cons_succ, List.set_cons_zero, List.map_cons, List.map_nil, List.cons_append, List.nil_append]; rfl) (op_cons ?_)
    | with_reducible refine op_cons ?_
    | with_reducible refine op_asg ?_
    | with_reducible refine op_ifT ?_
    | with_reducible refine rt_and ?_
    | with_reducible refine rt_or ?_
    | with_reducible refine rt_not ?_
    | with_reducible refine rt_of ?_
    | with_reducible refine op_ret ?_
    | with_reducible refine op_new ?_
    | with_reducible refine op_app (by with_unfolding_all rfl) (by first | exact st_get | exact st_get2) ?_
    | with_reducible refine op_aug (by with_unfolding_all rfl) (by decide) ?_
    | with_reducible refine op_for ?_
    | with_reducible refine op_par ?_
    | with_reducible refine op_tp ?_
    | with_reducible refine op_seti (by with_unfolding_all rfl) ?_
    | with_reducible refine op_expr ?_
    | with_reducible refine op_doc ?_
    | with_reducible refine op_pass ?_
    | with_reducible refine op_retN ?_
    | with_reducible refine fin0 ?_
    | with_reducible refine fin1 ?_
    | with_reducible refine fino1 ?_
    | with_reducible refine fin2 ?_
    | refine ⟨_, _, _, _, rfl, st_get, lt_sz (by first | omega | (simp only [List.length_map, List.length_append, List.length_cons, List.length_nil]; omega)), st_set, ?_⟩
    | refine ⟨_, rfl, rngOk_in (by omega) (by omega), ?_⟩
    | refine ⟨_, src_live, ?_⟩
    | refine ⟨_, bi_live rfl, ?_⟩
    | (refine ⟨_, rfl, fun h => ?_, fun h => ?_⟩ <;> try (first | exact absurd h (by decide) | exact (f_t h).elim | exact (t_f h).elim))
    | refine ⟨_, rfl, ?_⟩
    | refine ⟨_, if_pos (by first | assumption | omega), ?_⟩
    | refine ⟨_, _, rfl, le_sz rfl, ?_⟩
    | refine ⟨_, _, rfl, rfl, ?_⟩
    | refine ⟨_, _, rfl, if_pos (by first | assumption | omega), ?_⟩
    | refine ⟨_, rfl, rfl, ?_⟩
    | refine ⟨rfl, ?_⟩
    | exact rfl
    | dsimp only)
    refine RP.of_no (lfrom_ok hF (n + 2) _ 1 4 _) fun v S1 ⟨e1, e2⟩ => ?_
    subst e1; subst e2
    repeat' (first
    | with_reducible refine rp_var (by with_unfolding_all rfl) ?_
    | with_reducible refine rp_lit ?_
    | with_reducible refine rp_glb ?_
    | with_reducible refine rp_bin ?_
    | with_reducible refine rp_cmp ?_
    | with_reducible refine rp_cons ?_
    | with_reducible refine rp_nil ?_
    | with_reducible refine rp_idx ?_
    | with_reducible refine rp_call ?_
    | with_reducible refine rp_bi ?_
    | with_reducible refine rp_fz ?_
    | with_reducible refine rp_and ?_
    | with_reducible refine rp_or ?_
    | with_reducible refine rp_not ?_
    | with_reducible refine rp_ifT ?_
    | with_reducible refine rp_slc ?_
    | with_reducible refine rp_p0 ?_
    | with_reducible refine rp_p1 ?_
    | with_reducible refine rp_tup ?_
    | with_reducible refine rp_lst ?_
    | with_reducible refine rp_isi ?_
    | with_reducible refine rp_isit ?_
    | with_reducible refine rp_mth ?_
    | with_reducible refine rp_cmp2 ?_
    | with_reducible refine rp_neg ?_
    | with_reducible refine rp_t0 ?_
    | with_reducible refine rp_t1 ?_
    | with_reducible refine rp_lc ?_
    | with_reducible refine rp_lcL ?_
    | with_reducible refine rp_lstL ?_
    | with_reducible refine rp_catL ?_
    | with_reducible refine rp_listL ?_
    | with_reducible refine rp_of ?_
    | with_reducible refine rp_r1 ?_
    | with_reducible refine rp_r2 ?_
    | with_reducible refine rp_enum ?_
    | with_reducible refine rp_zip ?_
    | with_reducible refine op_nil ?_
    | with_reducible refine op_norm (by simp only [List.set_cons_succ, List.set_cons_zero, List.map_cons, List.map_nil, List.cons_append, List.nil_append]; rfl) (op_cons ?_)
    | with_reducible refine op_cons ?_
    | with_reducible refine op_asg ?_
    | with_reducible refine op_ifT ?_
    | with_reducible refine rt_and ?_
    | with_reducible refine rt_or ?_
    | with_reducible refine rt_not ?_
    | with_reducible refine rt_of ?_
    | with_reducible refine op_ret ?_
    | with_reducible refine op_new ?_
    | with_reducible refine op_app (by with_unfolding_all rfl) (by first | exact st_get | exact st_get2) ?_
    | with_reducible refine op_aug (by with_unfolding_all rfl) (by decide) ?_
    | with_reducible refine op_for ?_
    | with_reducible refine op_par ?_
    | with_reducible refine op_tp ?_
    | with_reducible refine op_seti (by with_unfolding_all rfl) ?_
    | with_reducible refine op_expr ?_
    | with_reducible refine op_doc ?_
    | with_reducible refine op_pass ?_
    | with_reducible refine op_retN ?_
    | with_reducible refine fin0 ?_
    | with_reducible refine fin1 ?_
    | with_reducible refine fino1 ?_
    | with_reducible refine fin2 ?_
    | refine ⟨_, _, _, _, rfl, st_get, lt_sz (by first | omega | (simp only [List.length_map, List.length_append, List.length_cons, List.length_nil]; omega)), st_set, ?_⟩
    | refine ⟨_, rfl, rngOk_in (by omega) (by omega), ?_⟩
    | refine ⟨_, src_live, ?_⟩
    | refine ⟨_, bi_live rfl, ?_⟩
    | (refine ⟨_, rfl, fun h => ?_, fun h => ?_⟩ <;> try (first | exact absurd h (by decide) | exact (f_t h).elim | exact (t_f h).elim))
    | refine ⟨_, rfl, ?_⟩
    | refine ⟨_, if_pos (by first | assumption | omega), ?_⟩
    | refine ⟨_, _, rfl, le_sz rfl, ?_⟩
    | refine ⟨_, _, rfl, rfl, ?_⟩
    | refine ⟨_, _, rfl, if_pos (by first | assumption | omega), ?_⟩
    | refine ⟨_, rfl, rfl, ?_⟩
    | refine ⟨rfl, ?_⟩
    | exact rfl
    | dsimp only)
    · have h14 : 1 ≤ ts.length ∧ ts.length ≤ 4 := by
        simp only [fromB, Bool.and_eq_true, decide_eq_true_eq] at h
        omega
      refine rp_lcI (fun x => .bl (tabB x)) (by omega) (fun x hxx acc => ?_) ?_
      · refine ⟨_, rfl, ?_⟩
        repeat' (first
    | with_reducible refine rp_var (by with_unfolding_all rfl) ?_
    | with_reducible refine rp_lit ?_
    | with_reducible refine rp_glb ?_
    | with_reducible refine rp_bin ?_
    | with_reducible refine rp_cmp ?_
    | with_reducible refine rp_cons ?_
    | with_reducible refine rp_nil ?_
    | with_reducible refine rp_idx ?_
    | with_reducible refine rp_call ?_
    | with_reducible refine rp_bi ?_
    | with_reducible refine rp_fz ?_
    | with_reducible refine rp_and ?_
    | with_reducible refine rp_or ?_
    | with_reducible refine rp_not ?_
    | with_reducible refine rp_ifT ?_
    | with_reducible refine rp_slc ?_
    | with_reducible refine rp_p0 ?_
    | with_reducible refine rp_p1 ?_
    | with_reducible refine rp_tup ?_
    | with_reducible refine rp_lst ?_
    | with_reducible refine rp_isi ?_
    | with_reducible refine rp_isit ?_
    | with_reducible refine rp_mth ?_
    | with_reducible refine rp_cmp2 ?_
    | with_reducible refine rp_neg ?_
    | with_reducible refine rp_t0 ?_
    | with_reducible refine rp_t1 ?_
    | with_reducible refine rp_lc ?_
    | with_reducible refine rp_lcL ?_
    | with_reducible refine rp_lstL ?_
    | with_reducible refine rp_catL ?_
    | with_reducible refine rp_listL ?_
    | with_reducible refine rp_of ?_
    | with_reducible refine rp_r1 ?_
    | with_reducible refine rp_r2 ?_
    | with_reducible refine rp_enum ?_
    | with_reducible refine rp_zip ?_
    | with_reducible refine op_nil ?_
    | with_reducible refine op_norm (by simp only [List.set_cons_succ, List.set_cons_zero, List.map_cons, List.map_nil, List.cons_append, List.nil_append]; rfl) (op_cons ?_)
    | with_reducible refine op_cons ?_
    | with_reducible refine op_asg ?_
    | with_reducible refine op_ifT ?_
    | with_reducible refine rt_and ?_
    | with_reducible refine rt_or ?_
    | with_reducible refine rt_not ?_
    | with_reducible refine rt_of ?_
    | with_reducible refine op_ret ?_
    | with_reducible refine op_new ?_
    | with_reducible refine op_app (by with_unfolding_all rfl) (by first | exact st_get | exact st_get2) ?_
    | with_reducible refine op_aug (by with_unfolding_all rfl) (by decide) ?_
    | with_reducible refine op_for ?_
    | with_reducible refine op_par ?_
    | with_reducible refine op_tp ?_
    | with_reducible refine op_seti (by with_unfolding_all rfl) ?_
    | with_reducible refine op_expr ?_
    | with_reducible refine op_doc ?_
    | with_reducible refine op_pass ?_
    | with_reducible refine op_retN ?_
    | with_reducible refine fin0 ?_
    | with_reducible refine fin1 ?_
    | with_reducible refine fino1 ?_
    | with_reducible refine fin2 ?_
    | refine ⟨_, _, _, _, rfl, st_get, lt_sz (by first | omega | (simp only [List.length_map, List.length_append, List.length_cons, List.length_nil]; omega)), st_set, ?_⟩
    | refine ⟨_, rfl, rngOk_in (by omega) (by omega), ?_⟩
    | refine ⟨_, src_live, ?_⟩
    | refine ⟨_, bi_live rfl, ?_⟩
    | (refine ⟨_, rfl, fun h => ?_, fun h => ?_⟩ <;> try (first | exact absurd h (by decide) | exact (f_t h).elim | exact (t_f h).elim))
    | refine ⟨_, rfl, ?_⟩
    | refine ⟨_, if_pos (by first | assumption | omega), ?_⟩
    | refine ⟨_, _, rfl, le_sz rfl, ?_⟩
    | refine ⟨_, _, rfl, rfl, ?_⟩
    | refine ⟨_, _, rfl, if_pos (by first | assumption | omega), ?_⟩
    | refine ⟨_, rfl, rfl, ?_⟩
    | refine ⟨rfl, ?_⟩
    | exact rfl
    | dsimp only)
        exact RP.of_no (lis_table_ok hTa hF hN hC n (hx x hxx) hb _) fun v S1 ⟨e1, e2⟩ => ⟨e2, e1⟩
      · repeat' (first
    | with_reducible refine rp_var (by with_unfolding_all rfl) ?_
    | refine ⟨_, all_bls tabB ts, ?_⟩
    | with_reducible refine rp_lit ?_
    | with_reducible refine rp_glb ?_
    | with_reducible refine rp_bin ?_
    | with_reducible refine rp_cmp ?_
    | with_reducible refine rp_cons ?_
    | with_reducible refine rp_nil ?_
    | with_reducible refine rp_idx ?_
    | with_reducible refine rp_call ?_
    | with_reducible refine rp_bi ?_
    | with_reducible refine rp_fz ?_
    | with_reducible refine rp_and ?_
    | with_reducible refine rp_or ?_
    | with_reducible refine rp_not ?_
    | with_reducible refine rp_ifT ?_
    | with_reducible refine rp_slc ?_
    | with_reducible refine rp_p0 ?_
    | with_reducible refine rp_p1 ?_
    | with_reducible refine rp_tup ?_
    | with_reducible refine rp_lst ?_
    | with_reducible refine rp_isi ?_
    | with_reducible refine rp_isit ?_
    | with_reducible refine rp_mth ?_
    | with_reducible refine rp_cmp2 ?_
    | with_reducible refine rp_neg ?_
    | with_reducible refine rp_t0 ?_
    | with_reducible refine rp_t1 ?_
    | with_reducible refine rp_lc ?_
    | with_reducible refine rp_lcL ?_
    | with_reducible refine rp_lstL ?_
    | with_reducible refine rp_catL ?_
    | with_reducible refine rp_listL ?_
    | with_reducible refine rp_of ?_
    | with_reducible refine rp_r1 ?_
    | with_reducible refine rp_r2 ?_
    | with_reducible refine rp_enum ?_
    | with_reducible refine rp_zip ?_
    | with_reducible refine op_nil ?_
    | with_reducible refine op_norm (by simp only [List.set_cons_succ, List.set_cons_zero, List.map_cons, List.map_nil, List.cons_append, List.nil_append]; rfl) (op_cons ?_)
    | with_reducible refine op_cons ?_
    | with_reducible refine op_asg ?_
    | with_reducible refine op_ifT ?_
    | with_reducible refine rt_and ?_
    | with_reducible refine rt_or ?_
    | with_reducible refine rt_not ?_
    | with_reducible refine rt_of ?_
    | with_reducible refine op_ret ?_
    | with_reducible refine op_new ?_
    | with_reducible refine op_app (by with_unfolding_all rfl) (by first | exact st_get | exact st_get2) ?_
    | with_reducible refine op_aug (by with_unfolding_all rfl) (by decide) ?_
    | with_reducible refine op_for ?_
    | with_reducible refine op_par ?_
    | with_reducible refine op_tp ?_
    | with_reducible refine op_seti (by with_unfolding_all rfl) ?_
    | with_reducible refine op_expr ?_
    | with_reducible refine op_doc ?_
    | with_reducible refine op_pass ?_
    | with_reducible refine op_retN ?_
    | with_reducible refine fin0 ?_
    | with_reducible refine fin1 ?_
    | with_reducible refine fino1 ?_
    | with_reducible refine fin2 ?_
    | refine ⟨_, _, _, _, rfl, st_get, lt_sz (by first | omega | (simp only [List.length_map, List.length_append, List.length_cons, List.length_nil]; omega)), st_set, ?_⟩
    | refine ⟨_, rfl, rngOk_in (by omega) (by omega), ?_⟩
    | refine ⟨_, src_live, ?_⟩
    | refine ⟨_, bi_live rfl, ?_⟩
    | (refine ⟨_, rfl, fun h => ?_, fun h => ?_⟩ <;> try (first | exact absurd h (by decide) | exact (f_t h).elim | exact (t_f h).elim))
    | refine ⟨_, rfl, ?_⟩
    | refine ⟨_, if_pos (by first | assumption | omega), ?_⟩
    | refine ⟨_, _, rfl, le_sz rfl, ?_⟩
    | refine ⟨_, _, rfl, rfl, ?_⟩
    | refine ⟨_, _, rfl, if_pos (by first | assumption | omega), ?_⟩
    | refine ⟨_, rfl, rfl, ?_⟩
    | refine ⟨rfl, ?_⟩
    | exact rfl
    | dsimp only)
        · have hall2 : ∀ t ∈ ts, tabB t = true := List.all_eq_true.mp h
          refine rp_lcI (fun c => .str (strD (fstD c))) (by omega) (fun x hx acc => ?_) ?_
          · refine ⟨_, rfl, ?_⟩
            repeat' (first
    | with_reducible refine rp_var (by with_unfolding_all rfl) ?_
    | refine ⟨_, tab_at0 (hall2 x hx), ?_⟩
    | with_reducible refine rp_lit ?_
    | with_reducible refine rp_glb ?_
    | with_reducible refine rp_bin ?_
    | with_reducible refine rp_cmp ?_
    | with_reducible refine rp_cons ?_
    | with_reducible refine rp_nil ?_
    | with_reducible refine rp_idx ?_
    | with_reducible refine rp_call ?_
    | with_reducible refine rp_bi ?_
    | with_reducible refine rp_fz ?_
    | with_reducible refine rp_and ?_
    | with_reducible refine rp_or ?_
    | with_reducible refine rp_not ?_
    | with_reducible refine rp_ifT ?_
    | with_reducible refine rp_slc ?_
    | with_reducible refine rp_p0 ?_
    | with_reducible refine rp_p1 ?_
    | with_reducible refine rp_tup ?_
    | with_reducible refine rp_lst ?_
    | with_reducible refine rp_isi ?_
    | with_reducible refine rp_isit ?_
    | with_reducible refine rp_mth ?_
    | with_reducible refine rp_cmp2 ?_
    | with_reducible refine rp_neg ?_
    | with_reducible refine rp_t0 ?_
    | with_reducible refine rp_t1 ?_
    | with_reducible refine rp_lc ?_
    | with_reducible refine rp_lcL ?_
    | with_reducible refine rp_lstL ?_
    | with_reducible refine rp_catL ?_
    | with_reducible refine rp_listL ?_
    | with_reducible refine rp_of ?_
    | with_reducible refine rp_r1 ?_
    | with_reducible refine rp_r2 ?_
    | with_reducible refine rp_enum ?_
    | with_reducible refine rp_zip ?_
    | with_reducible refine op_nil ?_
    | with_reducible refine op_norm (by simp only [List.set_cons_succ, List.set_cons_zero, List.map_cons, List.map_nil, List.cons_append, List.nil_append]; rfl) (op_cons ?_)
    | with_reducible refine op_cons ?_
    | with_reducible refine op_asg ?_
    | with_reducible refine op_ifT ?_
    | with_reducible refine rt_and ?_
    | with_reducible refine rt_or ?_
    | with_reducible refine rt_not ?_
    | with_reducible refine rt_of ?_
    | with_reducible refine op_ret ?_
    | with_reducible refine op_new ?_
    | with_reducible refine op_app (by with_unfolding_all rfl) (by first | exact st_get | exact st_get2) ?_
    | with_reducible refine op_aug (by with_unfolding_all rfl) (by decide) ?_
    | with_reducible refine op_for ?_
    | with_reducible refine op_par ?_
    | with_reducible refine op_tp ?_
    | with_reducible refine op_seti (by with_unfolding_all rfl) ?_
    | with_reducible refine op_expr ?_
    | with_reducible refine op_doc ?_
    | with_reducible refine op_pass ?_
    | with_reducible refine op_retN ?_
    | with_reducible refine fin0 ?_
    | with_reducible refine fin1 ?_
    | with_reducible refine fino1 ?_
    | with_reducible refine fin2 ?_
    | refine ⟨_, _, _, _, rfl, st_get, lt_sz (by first | omega | (simp only [List.length_map, List.length_append, List.length_cons, List.length_nil]; omega)), st_set, ?_⟩
    | refine ⟨_, rfl, rngOk_in (by omega) (by omega), ?_⟩
    | refine ⟨_, src_live, ?_⟩
    | refine ⟨_, bi_live rfl, ?_⟩
    | (refine ⟨_, rfl, fun h => ?_, fun h => ?_⟩ <;> try (first | exact absurd h (by decide) | exact (f_t h).elim | exact (t_f h).elim))
    | refine ⟨_, rfl, ?_⟩
    | refine ⟨_, if_pos (by first | assumption | omega), ?_⟩
    | refine ⟨_, _, rfl, le_sz rfl, ?_⟩
    | refine ⟨_, _, rfl, rfl, ?_⟩
    | refine ⟨_, _, rfl, if_pos (by first | assumption | omega), ?_⟩
    | refine ⟨_, rfl, rfl, ?_⟩
    | refine ⟨rfl, ?_⟩
    | exact rfl
    | dsimp only)
          · have en : (ts.map fun c => D.str (strD (fstD c))) = (namesOf ts).map .str := by rw [namesOf, List.map_map]; rfl
            have hnl : (namesOf ts).length = ts.length := by rw [namesOf, List.length_map]
            have e5 := sortset_strs (ws := namesOf ts) (by omega)
            have hso : ∀ w ∈ namesOf ts, PyData.strOk w = true := fun w hw => by
              obtain ⟨c, hc, rfl⟩ := List.mem_map.mp hw
              exact (nameS_ok (tab_name (hall2 c hc))).1
            have o1 : okD (.lst ((namesOf ts).map .str)) = true := (Ok.lst (k := 0) fun x hx => by
              obtain ⟨t, ht', rfl⟩ := List.mem_map.mp hx
              exact Ok.str (hso t ht')).okD (by omega)
            have o2 : okD (.lst (((dset (namesOf ts)).map D.str).mergeSort dle)) = true := (Ok.lst (k := 0) fun x hx => by
              obtain ⟨k, hk, rfl⟩ := List.mem_map.mp (List.mem_mergeSort.mp hx)
              exact Ok.str (hso k ((dset_mem k _).mp hk))).okD (by omega)
            have e6 : cmpD .eq (.lst (((dset (namesOf ts)).map D.str).mergeSort dle)) (.lst ((namesOf ts).map .str)) = some (rises (namesOf ts)) := by
              simp only [cmpD, o1, o2, Bool.and_self, Bool.or_true, if_true, sort_rises]
            rw [en]
            repeat' (first
    | with_reducible refine rp_var (by with_unfolding_all rfl) ?_
    | refine ⟨_, e5, ?_⟩
    | refine ⟨_, e6, ?_⟩
    | with_reducible refine rp_lit ?_
    | with_reducible refine rp_glb ?_
    | with_reducible refine rp_bin ?_
    | with_reducible refine rp_cmp ?_
    | with_reducible refine rp_cons ?_
    | with_reducible refine rp_nil ?_
    | with_reducible refine rp_idx ?_
    | with_reducible refine rp_call ?_
    | with_reducible refine rp_bi ?_
    | with_reducible refine rp_fz ?_
    | with_reducible refine rp_and ?_
    | with_reducible refine rp_or ?_
    | with_reducible refine rp_not ?_
    | with_reducible refine rp_ifT ?_
    | with_reducible refine rp_slc ?_
    | with_reducible refine rp_p0 ?_
    | with_reducible refine rp_p1 ?_
    | with_reducible refine rp_tup ?_
    | with_reducible refine rp_lst ?_
    | with_reducible refine rp_isi ?_
    | with_reducible refine rp_isit ?_
    | with_reducible refine rp_mth ?_
    | with_reducible refine rp_cmp2 ?_
    | with_reducible refine rp_neg ?_
    | with_reducible refine rp_t0 ?_
    | with_reducible refine rp_t1 ?_
    | with_reducible refine rp_lc ?_
    | with_reducible refine rp_lcL ?_
    | with_reducible refine rp_lstL ?_
    | with_reducible refine rp_catL ?_
    | with_reducible refine rp_listL ?_
    | with_reducible refine rp_of ?_
    | with_reducible refine rp_r1 ?_
    | with_reducible refine rp_r2 ?_
    | with_reducible refine rp_enum ?_
    | with_reducible refine rp_zip ?_
    | with_reducible refine op_nil ?_
    | with_reducible refine op_norm (by simp only [List.set_cons_succ, List.set_cons_zero, List.map_cons, List.map_nil, List.cons_append, List.nil_append]; rfl) (op_cons ?_)
    | with_reducible refine op_cons ?_
    | with_reducible refine op_asg ?_
    | with_reducible refine op_ifT ?_
    | with_reducible refine rt_and ?_
    | with_reducible refine rt_or ?_
    | with_reducible refine rt_not ?_
    | with_reducible refine rt_of ?_
    | with_reducible refine op_ret ?_
    | with_reducible refine op_new ?_
    | with_reducible refine op_app (by with_unfolding_all rfl) (by first | exact st_get | exact st_get2) ?_
    | with_reducible refine op_aug (by with_unfolding_all rfl) (by decide) ?_
    | with_reducible refine op_for ?_
    | with_reducible refine op_par ?_
    | with_reducible refine op_tp ?_
    | with_reducible refine op_seti (by with_unfolding_all rfl) ?_
    | with_reducible refine op_expr ?_
    | with_reducible refine op_doc ?_
    | with_reducible refine op_pass ?_
    | with_reducible refine op_retN ?_
    | with_reducible refine fin0 ?_
    | with_reducible refine fin1 ?_
    | with_reducible refine fino1 ?_
    | with_reducible refine fin2 ?_
    | refine ⟨_, _, _, _, rfl, st_get, lt_sz (by first | omega | (simp only [List.length_map, List.length_append, List.length_cons, List.length_nil]; omega)), st_set, ?_⟩
    | refine ⟨_, rfl, rngOk_in (by omega) (by omega), ?_⟩
    | refine ⟨_, src_live, ?_⟩
    | refine ⟨_, bi_live rfl, ?_⟩
    | (refine ⟨_, rfl, fun h => ?_, fun h => ?_⟩ <;> try (first | exact absurd h (by decide) | exact (f_t h).elim | exact (t_f h).elim))
    | refine ⟨_, rfl, ?_⟩
    | refine ⟨_, if_pos (by first | assumption | omega), ?_⟩
    | refine ⟨_, _, rfl, le_sz rfl, ?_⟩
    | refine ⟨_, _, rfl, rfl, ?_⟩
    | refine ⟨_, _, rfl, if_pos (by first | assumption | omega), ?_⟩
    | refine ⟨_, rfl, rfl, ?_⟩
    | refine ⟨rfl, ?_⟩
    | exact rfl
    | dsimp only)
            simp [groundB, *]
        · simp [groundB, *]
    · have h14 : ¬ (1 ≤ ts.length ∧ ts.length ≤ 4) := by
        simp only [fromB, Bool.and_eq_false_iff, decide_eq_false_iff_not] at h
        omega
      have : (decide (1 ≤ ts.length) && decide (ts.length ≤ 4)) = false := by
        rw [Bool.and_eq_false_iff]
        simp only [decide_eq_false_iff_not]
        omega
      simp [groundB, this]
  | _ => repeat' (first
    | with_reducible refine rp_var (by with_unfolding_all rfl) ?_
    | with_reducible refine rp_lit ?_
    | with_reducible refine rp_glb ?_
    | with_reducible refine rp_bin ?_
    | with_reducible refine rp_cmp ?_
    | with_reducible refine rp_cons ?_
    | with_reducible refine rp_nil ?_
    | with_reducible refine rp_idx ?_
    | with_reducible refine rp_call ?_
    | with_reducible refine rp_bi ?_
    | with_reducible refine rp_fz ?_
    | with_reducible refine rp_and ?_
    | with_reducible refine rp_or ?_
    | with_reducible refine rp_not ?_
    | with_reducible refine rp_ifT ?_
    | with_reducible refine rp_slc ?_
    | with_reducible refine rp_p0 ?_
    | with_reducible refine rp_p1 ?_
    | with_reducible refine rp_tup ?_
    | with_reducible refine rp_lst ?_
    | with_reducible refine rp_isi ?_
    | with_reducible refine rp_isit ?_
    | with_reducible refine rp_mth ?_
    | with_reducible refine rp_cmp2 ?_
    | with_reducible refine rp_neg ?_
    | with_reducible refine rp_t0 ?_
    | with_reducible refine rp_t1 ?_
    | with_reducible refine rp_lc ?_
    | with_reducible refine rp_lcL ?_
    | with_reducible refine rp_lstL ?_
    | with_reducible refine rp_catL ?_
    | with_reducible refine rp_listL ?_
    | with_reducible refine rp_of ?_
    | with_reducible refine rp_r1 ?_
    | with_reducible refine rp_r2 ?_
    | with_reducible refine rp_enum ?_
    | with_reducible refine rp_zip ?_
    | with_reducible refine op_nil ?_
    | with_reducible refine op_norm (by simp only [List.set_cons_succ, List.set_cons_zero, List.map_cons, List.map_nil, List.cons_append, List.nil_append]; rfl) (op_cons ?_)
    | with_reducible refine op_cons ?_
    | with_reducible refine op_asg ?_
    | with_reducible refine op_ifT ?_
    | with_reducible refine rt_and ?_
    | with_reducible refine rt_or ?_
    | with_reducible refine rt_not ?_
    | with_reducible refine rt_of ?_
    | with_reducible refine op_ret ?_
    | with_reducible refine op_new ?_
    | with_reducible refine op_app (by with_unfolding_all rfl) (by first | exact st_get | exact st_get2) ?_
    | with_reducible refine op_aug (by with_unfolding_all rfl) (by decide) ?_
    | with_reducible refine op_for ?_
    | with_reducible refine op_par ?_
    | with_reducible refine op_tp ?_
    | with_reducible refine op_seti (by with_unfolding_all rfl) ?_
    | with_reducible refine op_expr ?_
    | with_reducible refine op_doc ?_
    | with_reducible refine op_pass ?_
    | with_reducible refine op_retN ?_
    | with_reducible refine fin0 ?_
    | with_reducible refine fin1 ?_
    | with_reducible refine fino1 ?_
    | with_reducible refine fin2 ?_
    | refine ⟨_, _, _, _, rfl, st_get, lt_sz (by first | omega | (simp only [List.length_map, List.length_append, List.length_cons, List.length_nil]; omega)), st_set, ?_⟩
    | refine ⟨_, rfl, rngOk_in (by omega) (by omega), ?_⟩
    | refine ⟨_, src_live, ?_⟩
    | refine ⟨_, bi_live rfl, ?_⟩
    | (refine ⟨_, rfl, fun h => ?_, fun h => ?_⟩ <;> try (first | exact absurd h (by decide) | exact (f_t h).elim | exact (t_f h).elim))
    | refine ⟨_, rfl, ?_⟩
    | refine ⟨_, if_pos (by first | assumption | omega), ?_⟩
    | refine ⟨_, _, rfl, le_sz rfl, ?_⟩
    | refine ⟨_, _, rfl, rfl, ?_⟩
    | refine ⟨_, _, rfl, if_pos (by first | assumption | omega), ?_⟩
    | refine ⟨_, rfl, rfl, ?_⟩
    | refine ⟨rfl, ?_⟩
    | exact rfl
    | dsimp only)
end M

/-! odd things, spoilt things -/
namespace M
open PySem PySem.Spec PyProof.Rows L2
mutual
def ncB (b : Nat) : D → Bool
  | .non => true
  | .bl _ => true
  | .int _ => true
  | .str x => PyData.strOk x && decide (x.length ≤ b)
  | .tup xs => ncsB b xs && decide (xs.length ≤ b)
  | .lst xs => ncsB b xs && decide (xs.length ≤ b)
  | .dct _ => false
  | .ins _ _ => false
def ncsB (b : Nat) : List D → Bool
  | [] => true
  | x :: xs => ncB b x && ncsB b xs
end
mutual
theorem ncB_ok {b : Nat} : ∀ {d : D}, ncB b d = true → Nc b d
  | .non, _ => .non
  | .bl _, _ => .bl _
  | .int _, _ => .int _
  | .str x, h => by
    rw [ncB, Bool.and_eq_true, decide_eq_true_eq] at h
    exact .str h.1 h.2
  | .tup xs, h => by
    rw [ncB, Bool.and_eq_true, decide_eq_true_eq] at h
    exact .tup (ncsB_ok h.1) h.2
  | .lst xs, h => by
    rw [ncB, Bool.and_eq_true, decide_eq_true_eq] at h
    exact .lst (ncsB_ok h.1) h.2
  | .dct _, h => by rw [ncB] at h; cases h
  | .ins _ _, h => by rw [ncB] at h; cases h
theorem ncsB_ok {b : Nat} : ∀ {xs : List D}, ncsB b xs = true → ∀ x ∈ xs, Nc b x
  | [], _, x, hx => by cases hx
  | y :: ys, h, x, hx => by
    rw [ncsB, Bool.and_eq_true] at h
    rcases List.mem_cons.mp hx with e | hx
    · rw [e]; exact ncB_ok h.1
    · exact ncsB_ok h.2 x hx
end
/-- _law_odd(picks): 0 picks, 1 odd -/
def f__law_odd : Fn := ⟨1, 2,
  [(.asg (.v 1) (.lst [(.lit D.non), (.lit (D.bl true)), (.lit (D.bl false)), (.neg (.lit (D.int 1))), (.lit (D.int 0)), (.lit (D.int 1)), (.lit (D.int 2)), (.lit (D.int 8)), (.lit (D.int 9)), (.lit (D.int 10)), (.bin .pow (.lit (D.int 10)) (.lit (D.int 25))), (.lit (D.str "")), (.lit (D.str "a")), (.lit (D.str "ab")), (.lit (D.str "zzzzzzzz")), (.lit (D.str "zzzzzzzzz")), (.lit (D.str "Ab")), (.lit (D.str "a1"))])),
  (.asg (.v 1) (.bin .add (.var 1) (.lst [(.lit (D.str "rows")), (.lit (D.str "seal")), (.lit (D.str "not")), (.lit (D.str "has")), (.lit (D.str "a b")), (.lit (D.str " a")), (.lit (D.str "a\n")), (.tup []), (.lst []), (.tup [(.lit (D.str "a"))]), (.lst [(.lit (D.str "a"))]), (.tup [(.lit (D.int 1)), (.lit (D.int 2))]), (.tup [(.lit (D.str "yes"))]), (.tup [(.lit (D.bl true))])]))),
  (.asg (.v 1) (.bin .add (.var 1) (.lst [(.tup [(.lit (D.str "rows")), (.lit (D.str "a"))]), (.tup [(.lit (D.str "view")), (.lit (D.str "a"))]), (.lit (D.str "yes")), (.lit (D.str "read")), (.lit (D.str "must")), (.lit (D.str "own")), (.lit (D.str "asker")), (.neg (.lit (D.int 2))), (.lit (D.int 3)), (.lit (D.int 11)), (.tup [(.lit D.non)]), (.tup [(.tup [])])]))),
  (.ret (.idx (.var 1) (.bin .mod (.bin .add (.idx (.var 0) (.lit (D.int 0))) (.bin .mul (.lit (D.int 7)) (.idx (.var 0) (.lit (D.int 1))))) (.bi .len [(.var 1)]))))]⟩
/-- _law_spoilt(thing, picks): 0 thing, 1 picks, 2 parts, 3 at, 4 way -/
def f__law_spoilt (i__law_odd i__law_spoilt : Nat) : Fn := ⟨2, 5,
  [(.ife (.or (.not (.isit (.var 0) [.tuple, .list])) (.or (.cmp .eq (.bi .len [(.var 0)]) (.lit (D.int 0))) (.or (.cmp .lt (.bi .len [(.var 1)]) (.lit (D.int 9))) (.cmp .eq (.bin .mod (.idx (.var 1) (.lit (D.int 0))) (.lit (D.int 9))) (.lit (D.int 0)))))) [(.ret (.call i__law_odd [(.slc (.var 1) [(.lit (D.int 1))] [])]))] []),
  (.new 2 (.bi .list [(.var 0)])),
  (.asg (.v 3) (.bin .mod (.idx (.var 1) (.lit (D.int 1))) (.bi .len [(.var 2)]))),
  (.asg (.v 4) (.bin .mod (.idx (.var 1) (.lit (D.int 2))) (.lit (D.int 12)))),
  (.ife (.cmp .eq (.var 4) (.lit (D.int 0))) [(.new 2 (.bin .add (.slc (.var 2) [] [(.var 3)]) (.slc (.var 2) [(.bin .add (.var 3) (.lit (D.int 1)))] [])))] [(.ife (.cmp .eq (.var 4) (.lit (D.int 1))) [(.new 2 (.bin .add (.slc (.var 2) [] [(.bin .add (.var 3) (.lit (D.int 1)))]) (.slc (.var 2) [(.var 3)] [])))] [(.ife (.cmp .eq (.var 4) (.lit (D.int 2))) [(.new 2 (.bin .add (.slc (.var 2) [(.var 3)] []) (.slc (.var 2) [] [(.var 3)])))] [(.ife (.cmp .eq (.var 4) (.lit (D.int 3))) [(.new 2 (.bin .add (.bin .add (.slc (.var 2) [] [(.var 3)]) (.lst [(.call i__law_odd [(.slc (.var 1) [(.lit (D.int 3))] [])])])) (.slc (.var 2) [(.var 3)] [])))] [(.ife (.cmp .gt (.var 4) (.lit (D.int 4))) [(.seti 2 (.var 3) (.call i__law_spoilt [(.idx (.var 2) (.var 3)), (.slc (.var 1) [(.lit (D.int 4))] [])]))] [])])])])]),
  (.ife (.cmp .eq (.isi (.var 0) .tuple) (.cmp .eq (.var 4) (.lit (D.int 4)))) [(.ret (.var 2))] []),
  (.ret (.bi .tuple [(.var 2)]))]⟩
def oddA : List D := [.non, .bl true, .bl false, .int (-1), .int 0, .int 1, .int 2, .int 8, .int 9, .int 10, .int (10 ^ 25), .str "", .str "a", .str "ab", .str "zzzzzzzz", .str "zzzzzzzzz", .str "Ab", .str "a1"]
def oddB : List D := [.str "rows", .str "seal", .str "not", .str "has", .str "a b", .str " a", .str "a\n", .tup [], .lst [], .tup [.str "a"], .lst [.str "a"], .tup [.int 1, .int 2], .tup [.str "yes"], .tup [.bl true]]
def oddC : List D := [.tup [.str "rows", .str "a"], .tup [.str "view", .str "a"], .str "yes", .str "read", .str "must", .str "own", .str "asker", .int (-2), .int 3, .int 11, .tup [.non], .tup [.tup []]]
theorem odd_nc : ncsB 10 (oddA ++ oddB ++ oddC) = true := by decide +kernel
theorem oddAB : binD .add (.lst oddA) (.lst oddB) = some (.lst (oddA ++ oddB)) := by
  simp only [binD]
  rw [if_pos (le_sz rfl)]
theorem oddABC : binD .add (.lst (oddA ++ oddB)) (.lst oddC) = some (.lst (oddA ++ oddB ++ oddC)) := by
  simp only [binD]
  rw [if_pos (le_sz rfl)]
theorem at_mem {xs : List D} {z : Int} (h0 : 0 ≤ z) (h1 : z < xs.length) : ∃ d, atI xs z = some d ∧ d ∈ xs := by
  obtain ⟨k, rfl⟩ := Int.eq_ofNat_of_zero_le h0
  have hk : k < xs.length := by omega
  exact ⟨xs[k], L2.atI_nat (List.getElem?_eq_getElem hk), List.getElem_mem hk⟩
theorem odd_ok {T : List Fn} {i : Nat} (hT : T[i]? = some f__law_odd) (n : Nat) (ps : List Int) (hl : 2 ≤ ps.length) (hp : ∀ x ∈ ps, 0 ≤ x ∧ x < 1000) (S : St') : RP (FT T (n + 1) i [.t (.lst (ps.map .int))] S) (fun v S' => S' = S ∧ ∃ d, v = .t d ∧ Nc 10 d) noE := by
  refine rp_fn hT rfl rfl ?_
  simp only [f__law_odd, pad]
  have g0 : idxD (.lst (ps.map .int)) (.int 0) = some (.int (sget ps 0)) := at_int (j := 0) (by omega)
  have g1 : idxD (.lst (ps.map .int)) (.int 1) = some (.int (sget ps 1)) := at_int (j := 1) (by omega)
  have b0 := hp _ (sget_mem (ss := ps) (j := 0) (by omega))
  have b1 := hp _ (sget_mem (ss := ps) (j := 1) (by omega))
  repeat' (first
    | with_reducible refine rp_var (by with_unfolding_all rfl) ?_
    | refine ⟨_, oddAB, ?_⟩
    | refine ⟨_, oddABC, ?_⟩
    | refine ⟨_, g0, ?_⟩
    | refine ⟨_, g1, ?_⟩
    | with_reducible refine rp_lit ?_
    | with_reducible refine rp_glb ?_
    | with_reducible refine rp_bin ?_
    | with_reducible refine rp_cmp ?_
    | with_reducible refine rp_cons ?_
    | with_reducible refine rp_nil ?_
    | with_reducible refine rp_idx ?_
    | with_reducible refine rp_call ?_
    | with_reducible refine rp_bi ?_
    | with_reducible refine rp_fz ?_
    | with_reducible refine rp_and ?_
    | with_reducible refine rp_or ?_
    | with_reducible refine rp_not ?_
    | with_reducible refine rp_ifT ?_
    | with_reducible refine rp_slc ?_
    | with_reducible refine rp_p0 ?_
    | with_reducible refine rp_p1 ?_
    | with_reducible refine rp_tup ?_
    | with_reducible refine rp_lst ?_
    | with_reducible refine rp_isi ?_
    | with_reducible refine rp_isit ?_
    | with_reducible refine rp_mth ?_
    | with_reducible refine rp_cmp2 ?_
    | with_reducible refine rp_neg ?_
    | with_reducible refine rp_t0 ?_
    | with_reducible refine rp_t1 ?_
    | with_reducible refine rp_lc ?_
    | with_reducible refine rp_lcL ?_
    | with_reducible refine rp_lstL ?_
    | with_reducible refine rp_catL ?_
    | with_reducible refine rp_listL ?_
    | with_reducible refine rp_of ?_
    | with_reducible refine rp_r1 ?_
    | with_reducible refine rp_r2 ?_
    | with_reducible refine rp_enum ?_
    | with_reducible refine rp_zip ?_
    | with_reducible refine op_nil ?_
    | with_reducible refine op_norm (by simp only [List.set_cons_succ, List.set_cons_zero, List.map_cons, List.map_nil, List.cons_append, List.nil_append]; rfl) (op_cons ?_)
    | with_reducible refine op_cons ?_
    | with_reducible refine op_asg ?_
    | with_reducible refine op_ifT ?_
    | with_reducible refine rt_and ?_
    | with_reducible refine rt_or ?_
    | with_reducible refine rt_not ?_
    | with_reducible refine rt_of ?_
    | with_reducible refine op_ret ?_
    | with_reducible refine op_new ?_
    | with_reducible refine op_app (by with_unfolding_all rfl) (by first | exact st_get | exact st_get2) ?_
    | with_reducible refine op_aug (by with_unfolding_all rfl) (by decide) ?_
    | with_reducible refine op_for ?_
    | with_reducible refine op_par ?_
    | with_reducible refine op_tp ?_
    | with_reducible refine op_seti (by with_unfolding_all rfl) ?_
    | with_reducible refine op_expr ?_
    | with_reducible refine op_doc ?_
    | with_reducible refine op_pass ?_
    | with_reducible refine op_retN ?_
    | with_reducible refine fin0 ?_
    | with_reducible refine fin1 ?_
    | with_reducible refine fino1 ?_
    | with_reducible refine fin2 ?_
    | refine ⟨_, _, _, _, rfl, st_get, lt_sz (by first | omega | (simp only [List.length_map, List.length_append, List.length_cons, List.length_nil]; omega)), st_set, ?_⟩
    | refine ⟨_, rfl, rngOk_in (by omega) (by omega), ?_⟩
    | refine ⟨_, src_live, ?_⟩
    | refine ⟨_, bi_live rfl, ?_⟩
    | (refine ⟨_, rfl, fun h => ?_, fun h => ?_⟩ <;> try (first | exact absurd h (by decide) | exact (f_t h).elim | exact (t_f h).elim))
    | refine ⟨_, rfl, ?_⟩
    | refine ⟨_, if_pos (by first | assumption | omega), ?_⟩
    | refine ⟨_, _, rfl, le_sz rfl, ?_⟩
    | refine ⟨_, _, rfl, rfl, ?_⟩
    | refine ⟨_, _, rfl, if_pos (by first | assumption | omega), ?_⟩
    | refine ⟨_, rfl, rfl, ?_⟩
    | refine ⟨rfl, ?_⟩
    | exact rfl
    | dsimp only)
  obtain ⟨d, h1, h2⟩ := at_mem (xs := oddA ++ oddB ++ oddC) (z := (sget ps 0 + 7 * sget ps 1) % (oddA ++ oddB ++ oddC).length) (Int.emod_nonneg _ (by decide)) (Int.emod_lt_of_pos _ (by decide))
  refine ⟨d, h1, ?_⟩
  repeat' (first
    | with_reducible refine rp_var (by with_unfolding_all rfl) ?_
    | with_reducible refine rp_lit ?_
    | with_reducible refine rp_glb ?_
    | with_reducible refine rp_bin ?_
    | with_reducible refine rp_cmp ?_
    | with_reducible refine rp_cons ?_
    | with_reducible refine rp_nil ?_
    | with_reducible refine rp_idx ?_
    | with_reducible refine rp_call ?_
    | with_reducible refine rp_bi ?_
    | with_reducible refine rp_fz ?_
    | with_reducible refine rp_and ?_
    | with_reducible refine rp_or ?_
    | with_reducible refine rp_not ?_
    | with_reducible refine rp_ifT ?_
    | with_reducible refine rp_slc ?_
    | with_reducible refine rp_p0 ?_
    | with_reducible refine rp_p1 ?_
    | with_reducible refine rp_tup ?_
    | with_reducible refine rp_lst ?_
    | with_reducible refine rp_isi ?_
    | with_reducible refine rp_isit ?_
    | with_reducible refine rp_mth ?_
    | with_reducible refine rp_cmp2 ?_
    | with_reducible refine rp_neg ?_
    | with_reducible refine rp_t0 ?_
    | with_reducible refine rp_t1 ?_
    | with_reducible refine rp_lc ?_
    | with_reducible refine rp_lcL ?_
    | with_reducible refine rp_lstL ?_
    | with_reducible refine rp_catL ?_
    | with_reducible refine rp_listL ?_
    | with_reducible refine rp_of ?_
    | with_reducible refine rp_r1 ?_
    | with_reducible refine rp_r2 ?_
    | with_reducible refine rp_enum ?_
    | with_reducible refine rp_zip ?_
    | with_reducible refine op_nil ?_
    | with_reducible refine op_norm (by simp only [List.set_cons_succ, List.set_cons_zero, List.map_cons, List.map_nil, List.cons_append, List.nil_append]; rfl) (op_cons ?_)
    | with_reducible refine op_cons ?_
    | with_reducible refine op_asg ?_
    | with_reducible refine op_ifT ?_
    | with_reducible refine rt_and ?_
    | with_reducible refine rt_or ?_
    | with_reducible refine rt_not ?_
    | with_reducible refine rt_of ?_
    | with_reducible refine op_ret ?_
    | with_reducible refine op_new ?_
    | with_reducible refine op_app (by with_unfolding_all rfl) (by first | exact st_get | exact st_get2) ?_
    | with_reducible refine op_aug (by with_unfolding_all rfl) (by decide) ?_
    | with_reducible refine op_for ?_
    | with_reducible refine op_par ?_
    | with_reducible refine op_tp ?_
    | with_reducible refine op_seti (by with_unfolding_all rfl) ?_
    | with_reducible refine op_expr ?_
    | with_reducible refine op_doc ?_
    | with_reducible refine op_pass ?_
    | with_reducible refine op_retN ?_
    | with_reducible refine fin0 ?_
    | with_reducible refine fin1 ?_
    | with_reducible refine fino1 ?_
    | with_reducible refine fin2 ?_
    | refine ⟨_, _, _, _, rfl, st_get, lt_sz (by first | omega | (simp only [List.length_map, List.length_append, List.length_cons, List.length_nil]; omega)), st_set, ?_⟩
    | refine ⟨_, rfl, rngOk_in (by omega) (by omega), ?_⟩
    | refine ⟨_, src_live, ?_⟩
    | refine ⟨_, bi_live rfl, ?_⟩
    | (refine ⟨_, rfl, fun h => ?_, fun h => ?_⟩ <;> try (first | exact absurd h (by decide) | exact (f_t h).elim | exact (t_f h).elim))
    | refine ⟨_, rfl, ?_⟩
    | refine ⟨_, if_pos (by first | assumption | omega), ?_⟩
    | refine ⟨_, _, rfl, le_sz rfl, ?_⟩
    | refine ⟨_, _, rfl, rfl, ?_⟩
    | refine ⟨_, _, rfl, if_pos (by first | assumption | omega), ?_⟩
    | refine ⟨_, rfl, rfl, ?_⟩
    | refine ⟨rfl, ?_⟩
    | exact rfl
    | dsimp only)
  exact ncsB_ok odd_nc d h2
theorem pk_live {S : St'} {xs : List D} : peek (S ++ [.lst xs]) (.o S.length) = some (.lst xs) := by simp only [peek, st_get]
theorem slc_live {S : St'} {xs : List D} {l h : Option Int} : slc2 (S ++ [.lst xs]) (.o S.length) l h = some (.lst (cutD xs l h)) := by
  unfold slc2; rw [pk_live]; rfl
theorem idx_live {S : St'} {xs : List D} {z : Int} {d : D} (h : atI xs z = some d) : idx2 (S ++ [.lst xs]) (.o S.length) (.t (.int z)) = some d := by
  unfold idx2; rw [pk_live]; exact h
theorem len_live {S : St'} {xs : List D} : bi2 .len (S ++ [.lst xs]) [.o S.length] = some (.int xs.length) := bi_live rfl
theorem finO {S S' : St'} {k : Nat} {ys : List D} {P : SV → St' → Prop} {E : EX} (hk : S.length ≤ k) (hg : S'[k]? = some (.lst ys)) (ht : S'.take S.length = S) (h : P (.t (.lst ys)) S) : RP (finish S.length (.o k) S') P E := by
  unfold finish
  simp only [if_neg (Nat.not_lt.mpr hk), hg, ht]
  exact h
theorem finT {S S' : St'} {d : D} {P : SV → St' → Prop} {E : EX} (ht : S'.take S.length = S) (h : P (.t d) S) : RP (finish S.length (.t d) S') P E := by
  unfold finish
  rw [ht]
  exact h
/-- the parts of a spoilt thing -/
structure Sp (b : Nat) (S S' : St') (k : Nat) (ys : List D) : Prop where
  lo : S.length ≤ k
  get : S'[k]? = some (.lst ys)
  tk : S'.take S.length = S
  nc : ∀ y ∈ ys, Nc (b + 1) y
  len : ys.length ≤ b + 1
theorem Sp.one {b : Nat} {S : St'} {ys : List D} (h1 : ∀ y ∈ ys, Nc (b + 1) y) (h2 : ys.length ≤ b + 1) : Sp b S (S ++ [.lst ys]) S.length ys := ⟨Nat.le_refl _, st_get, by simp, h1, h2⟩
theorem Sp.two {b : Nat} {S : St'} {xs ys : List D} (h1 : ∀ y ∈ ys, Nc (b + 1) y) (h2 : ys.length ≤ b + 1) : Sp b S ((S ++ [O.lst xs]) ++ [O.lst ys]) (S ++ [O.lst xs]).length ys := ⟨by simp, st_get, by simp, h1, h2⟩
theorem take_cut {xs : List D} {a : Int} (h : 0 ≤ a) : cutD xs none (some a) = xs.take a.toNat := cut_to xs h
theorem drop_cut {xs : List D} {a : Int} (h : 0 ≤ a) : cutD xs (some a) none = xs.drop a.toNat := cut_of xs h
theorem ints_of {ps : List Int} {a : Int} (h : 0 ≤ a) : slcD (.lst (ps.map .int)) (some a) none = some (.lst ((ps.drop a.toNat).map .int)) := by
  rw [slc_ints, cutL_of ps h]
theorem ixN_at {n : Nat} {z : Int} (h0 : 0 ≤ z) (h1 : z < n) : ixN n z = some z.toNat := by
  unfold ixN
  rw [if_pos h0, if_pos (by omega)]
def spChain (iO i : Nat) : MS := (.ife (.cmp .eq (.var 4) (.lit (D.int 0))) [(.new 2 (.bin .add (.slc (.var 2) [] [(.var 3)]) (.slc (.var 2) [(.bin .add (.var 3) (.lit (D.int 1)))] [])))] [(.ife (.cmp .eq (.var 4) (.lit (D.int 1))) [(.new 2 (.bin .add (.slc (.var 2) [] [(.bin .add (.var 3) (.lit (D.int 1)))]) (.slc (.var 2) [(.var 3)] [])))] [(.ife (.cmp .eq (.var 4) (.lit (D.int 2))) [(.new 2 (.bin .add (.slc (.var 2) [(.var 3)] []) (.slc (.var 2) [] [(.var 3)])))] [(.ife (.cmp .eq (.var 4) (.lit (D.int 3))) [(.new 2 (.bin .add (.bin .add (.slc (.var 2) [] [(.var 3)]) (.lst [(.call iO [(.slc (.var 1) [(.lit (D.int 3))] [])])])) (.slc (.var 2) [(.var 3)] [])))] [(.ife (.cmp .gt (.var 4) (.lit (D.int 4))) [(.seti 2 (.var 3) (.call i [(.idx (.var 2) (.var 3)), (.slc (.var 1) [(.lit (D.int 4))] [])]))] [])])])])])
theorem cutD_le (xs : List D) (l h : Option Int) : (cutD xs l h).length ≤ xs.length := by
  unfold cutD; rw [List.length_take, List.length_drop]; omega
theorem cutD_mem {xs : List D} {l h : Option Int} {x : D} (hx : x ∈ cutD xs l h) : x ∈ xs := List.mem_of_mem_drop (List.mem_of_mem_take hx)
theorem chain_ok {F : FS} {iO i b : Nat} {d : D} {ps : List Int} {xs : List D} {at_ way : Int} {S : St'} (hb : b ≤ 900) (hl4 : 9 ≤ ps.length) (hx : ∀ x ∈ xs, Nc b x) (hxl : xs.length ≤ b) (ha0 : 0 ≤ at_) (ha1 : at_ < xs.length)
    (hodd : ∀ S', RP (F iO [.t (.lst ((ps.drop 3).map .int))] S') (fun v S'' => S'' = S' ∧ ∃ d, v = .t d ∧ Nc (b + 1) d) noE)
    (hsp : ∀ x ∈ xs, ∀ S', RP (F i [.t x, .t (.lst ((ps.drop 4).map .int))] S') (fun v S'' => S'' = S' ∧ ∃ d, v = .t d ∧ Nc (b + 1) d) noE) {P : Po} :
    OP (execS F (spChain iO i) [some (.t d), some (.t (.lst (ps.map .int))), some (.o S.length), some (.t (.int at_)), some (.t (.int way))] (S ++ [.lst xs])) (fun ρ' S' => ∃ k ys, ρ' = [some (.t d), some (.t (.lst (ps.map .int))), some (.o k), some (.t (.int at_)), some (.t (.int way))] ∧ Sp b S S' k ys) noN noN P := by
  unfold spChain
  have r3 : slcD (.lst (ps.map .int)) (some 3) none = some (.lst ((ps.drop 3).map .int)) := ints_of (by omega)
  have r4 : slcD (.lst (ps.map .int)) (some 4) none = some (.lst ((ps.drop 4).map .int)) := ints_of (by omega)
  obtain ⟨y, hy, hym⟩ := at_mem ha0 ha1
  have c2 : ∀ l h l' h', (cutD xs l h).length + (cutD xs l' h').length ≤ sizeLine := fun l h l' h' => le_sz' (by
    have := cutD_le xs l h
    have := cutD_le xs l' h'
    omega)
  have mn : ∀ {x l h}, x ∈ cutD xs l h → Nc (b + 1) x := fun hx' => (hx _ (cutD_mem hx')).mono (by omega)
  repeat' (first
    | with_reducible refine rp_var (by with_unfolding_all rfl) ?_
    | refine ⟨_, slc_live, ?_⟩
    | refine ⟨_, r3, ?_⟩
    | refine ⟨_, r4, ?_⟩
    | refine ⟨_, idx_live hy, ?_⟩
    | refine ⟨_, _, rfl, rfl, c2 _ _ _ _, ?_⟩
    | with_reducible refine rp_lit ?_
    | with_reducible refine rp_glb ?_
    | with_reducible refine rp_bin ?_
    | with_reducible refine rp_cmp ?_
    | with_reducible refine rp_cons ?_
    | with_reducible refine rp_nil ?_
    | with_reducible refine rp_idx ?_
    | with_reducible refine rp_call ?_
    | with_reducible refine rp_bi ?_
    | with_reducible refine rp_fz ?_
    | with_reducible refine rp_and ?_
    | with_reducible refine rp_or ?_
    | with_reducible refine rp_not ?_
    | with_reducible refine rp_ifT ?_
    | with_reducible refine rp_slc ?_
    | with_reducible refine rp_p0 ?_
    | with_reducible refine rp_p1 ?_
    | with_reducible refine rp_tup ?_
    | with_reducible refine rp_lst ?_
    | with_reducible refine rp_isi ?_
    | with_reducible refine rp_isit ?_
    | with_reducible refine rp_mth ?_
    | with_reducible refine rp_cmp2 ?_
    | with_reducible refine rp_neg ?_
    | with_reducible refine rp_t0 ?_
    | with_reducible refine rp_t1 ?_
    | with_reducible refine rp_lc ?_
    | with_reducible refine rp_lcL ?_
    | with_reducible refine rp_lstL ?_
    | with_reducible refine rp_catL ?_
    | with_reducible refine rp_listL ?_
    | with_reducible refine rp_of ?_
    | with_reducible refine rp_r1 ?_
    | with_reducible refine rp_r2 ?_
    | with_reducible refine rp_enum ?_
    | with_reducible refine rp_zip ?_
    | with_reducible refine op_nil ?_
    | with_reducible refine op_norm (by simp only [List.set_cons_succ, List.set_cons_zero, List.map_cons, List.map_nil, List.cons_append, List.nil_append]; rfl) (op_cons ?_)
    | with_reducible refine op_cons ?_
    | with_reducible refine op_asg ?_
    | with_reducible refine op_ifT ?_
    | with_reducible refine rt_and ?_
    | with_reducible refine rt_or ?_
    | with_reducible refine rt_not ?_
    | with_reducible refine rt_of ?_
    | with_reducible refine op_ret ?_
    | with_reducible refine op_new ?_
    | with_reducible refine op_app (by with_unfolding_all rfl) (by first | exact st_get | exact st_get2) ?_
    | with_reducible refine op_aug (by with_unfolding_all rfl) (by decide) ?_
    | with_reducible refine op_for ?_
    | with_reducible refine op_par ?_
    | with_reducible refine op_tp ?_
    | with_reducible refine op_seti (by with_unfolding_all rfl) ?_
    | with_reducible refine op_expr ?_
    | with_reducible refine op_doc ?_
    | with_reducible refine op_pass ?_
    | with_reducible refine op_retN ?_
    | with_reducible refine fin0 ?_
    | with_reducible refine fin1 ?_
    | with_reducible refine fino1 ?_
    | with_reducible refine fin2 ?_
    | refine ⟨_, _, _, _, rfl, st_get, lt_sz (by first | omega | (simp only [List.length_map, List.length_append, List.length_cons, List.length_nil]; omega)), st_set, ?_⟩
    | refine ⟨_, rfl, rngOk_in (by omega) (by omega), ?_⟩
    | refine ⟨_, src_live, ?_⟩
    | refine ⟨_, bi_live rfl, ?_⟩
    | (refine ⟨_, rfl, fun h => ?_, fun h => ?_⟩ <;> try (first | exact absurd h (by decide) | exact (f_t h).elim | exact (t_f h).elim))
    | refine ⟨_, rfl, ?_⟩
    | refine ⟨_, if_pos (by first | assumption | omega), ?_⟩
    | refine ⟨_, _, rfl, le_sz rfl, ?_⟩
    | refine ⟨_, _, rfl, rfl, ?_⟩
    | refine ⟨_, _, rfl, if_pos (by first | assumption | omega), ?_⟩
    | refine ⟨_, rfl, rfl, ?_⟩
    | refine ⟨rfl, ?_⟩
    | exact rfl
    | dsimp only)
  · refine ⟨_, _, rfl, Sp.two (fun y hy => ?_) ?_⟩
    · rcases List.mem_append.mp hy with h | h <;> exact mn h
    · rw [take_cut ha0, drop_cut (by omega), List.length_append, List.length_take, List.length_drop]
      omega
  · refine ⟨_, _, rfl, Sp.two (fun y hy => ?_) ?_⟩
    · rcases List.mem_append.mp hy with h | h <;> exact mn h
    · rw [take_cut (by omega), drop_cut (by omega), List.length_append, List.length_take, List.length_drop]
      omega
  · refine ⟨_, _, rfl, Sp.two (fun y hy => ?_) ?_⟩
    · rcases List.mem_append.mp hy with h | h <;> exact mn h
    · rw [take_cut ha0, drop_cut (by omega), List.length_append, List.length_take, List.length_drop]
      omega
  · refine RP.of_no (hodd _) fun v S1 ⟨e1, d', e2, e3⟩ => ?_
    subst e1; subst e2
    have c3 : (cutD xs none (some at_)).length + [d'].length ≤ sizeLine := le_sz' (by
      have := cutD_le xs none (some at_)
      show _ + 1 ≤ _
      omega)
    have c4 : ((cutD xs none (some at_)) ++ [d']).length + (cutD xs (some at_) none).length ≤ sizeLine := le_sz' (by
      have := cutD_le xs none (some at_)
      have := cutD_le xs (some at_) none
      rw [List.length_append]
      show _ + 1 + _ ≤ _
      omega)
    repeat' (first
    | with_reducible refine rp_var (by with_unfolding_all rfl) ?_
    | refine ⟨_, if_pos c3, ?_⟩
    | refine ⟨_, slc_live, ?_⟩
    | refine ⟨_, _, rfl, rfl, c4, ?_⟩
    | with_reducible refine rp_lit ?_
    | with_reducible refine rp_glb ?_
    | with_reducible refine rp_bin ?_
    | with_reducible refine rp_cmp ?_
    | with_reducible refine rp_cons ?_
    | with_reducible refine rp_nil ?_
    | with_reducible refine rp_idx ?_
    | with_reducible refine rp_call ?_
    | with_reducible refine rp_bi ?_
    | with_reducible refine rp_fz ?_
    | with_reducible refine rp_and ?_
    | with_reducible refine rp_or ?_
    | with_reducible refine rp_not ?_
    | with_reducible refine rp_ifT ?_
    | with_reducible refine rp_slc ?_
    | with_reducible refine rp_p0 ?_
    | with_reducible refine rp_p1 ?_
    | with_reducible refine rp_tup ?_
    | with_reducible refine rp_lst ?_
    | with_reducible refine rp_isi ?_
    | with_reducible refine rp_isit ?_
    | with_reducible refine rp_mth ?_
    | with_reducible refine rp_cmp2 ?_
    | with_reducible refine rp_neg ?_
    | with_reducible refine rp_t0 ?_
    | with_reducible refine rp_t1 ?_
    | with_reducible refine rp_lc ?_
    | with_reducible refine rp_lcL ?_
    | with_reducible refine rp_lstL ?_
    | with_reducible refine rp_catL ?_
    | with_reducible refine rp_listL ?_
    | with_reducible refine rp_of ?_
    | with_reducible refine rp_r1 ?_
    | with_reducible refine rp_r2 ?_
    | with_reducible refine rp_enum ?_
    | with_reducible refine rp_zip ?_
    | with_reducible refine op_nil ?_
    | with_reducible refine op_norm (by simp only [List.set_cons_succ, List.set_cons_zero, List.map_cons, List.map_nil, List.cons_append, List.nil_append]; rfl) (op_cons ?_)
    | with_reducible refine op_cons ?_
    | with_reducible refine op_asg ?_
    | with_reducible refine op_ifT ?_
    | with_reducible refine rt_and ?_
    | with_reducible refine rt_or ?_
    | with_reducible refine rt_not ?_
    | with_reducible refine rt_of ?_
    | with_reducible refine op_ret ?_
    | with_reducible refine op_new ?_
    | with_reducible refine op_app (by with_unfolding_all rfl) (by first | exact st_get | exact st_get2) ?_
    | with_reducible refine op_aug (by with_unfolding_all rfl) (by decide) ?_
    | with_reducible refine op_for ?_
    | with_reducible refine op_par ?_
    | with_reducible refine op_tp ?_
    | with_reducible refine op_seti (by with_unfolding_all rfl) ?_
    | with_reducible refine op_expr ?_
    | with_reducible refine op_doc ?_
    | with_reducible refine op_pass ?_
    | with_reducible refine op_retN ?_
    | with_reducible refine fin0 ?_
    | with_reducible refine fin1 ?_
    | with_reducible refine fino1 ?_
    | with_reducible refine fin2 ?_
    | refine ⟨_, _, _, _, rfl, st_get, lt_sz (by first | omega | (simp only [List.length_map, List.length_append, List.length_cons, List.length_nil]; omega)), st_set, ?_⟩
    | refine ⟨_, rfl, rngOk_in (by omega) (by omega), ?_⟩
    | refine ⟨_, src_live, ?_⟩
    | refine ⟨_, bi_live rfl, ?_⟩
    | (refine ⟨_, rfl, fun h => ?_, fun h => ?_⟩ <;> try (first | exact absurd h (by decide) | exact (f_t h).elim | exact (t_f h).elim))
    | refine ⟨_, rfl, ?_⟩
    | refine ⟨_, if_pos (by first | assumption | omega), ?_⟩
    | refine ⟨_, _, rfl, le_sz rfl, ?_⟩
    | refine ⟨_, _, rfl, rfl, ?_⟩
    | refine ⟨_, _, rfl, if_pos (by first | assumption | omega), ?_⟩
    | refine ⟨_, rfl, rfl, ?_⟩
    | refine ⟨rfl, ?_⟩
    | exact rfl
    | dsimp only)
    refine ⟨_, _, rfl, Sp.two (fun y hy => ?_) ?_⟩
    · rcases List.mem_append.mp hy with h | h
      · rcases List.mem_append.mp h with h | h
        · exact mn h
        · rw [List.mem_singleton.mp h]; exact e3
      · exact mn h
    · rw [take_cut ha0, drop_cut (by omega), List.length_append, List.length_append, List.length_take, List.length_drop]
      show _ + 1 + _ ≤ _
      omega
  · refine RP.of_no (hsp y hym _) fun v S1 ⟨e1, d', e2, e3⟩ => ?_
    subst e1; subst e2
    refine ⟨_, _, rfl, ?_⟩
    repeat' (first
    | with_reducible refine rp_var (by with_unfolding_all rfl) ?_
    | with_reducible refine rp_lit ?_
    | with_reducible refine rp_glb ?_
    | with_reducible refine rp_bin ?_
    | with_reducible refine rp_cmp ?_
    | with_reducible refine rp_cons ?_
    | with_reducible refine rp_nil ?_
    | with_reducible refine rp_idx ?_
    | with_reducible refine rp_call ?_
    | with_reducible refine rp_bi ?_
    | with_reducible refine rp_fz ?_
    | with_reducible refine rp_and ?_
    | with_reducible refine rp_or ?_
    | with_reducible refine rp_not ?_
    | with_reducible refine rp_ifT ?_
    | with_reducible refine rp_slc ?_
    | with_reducible refine rp_p0 ?_
    | with_reducible refine rp_p1 ?_
    | with_reducible refine rp_tup ?_
    | with_reducible refine rp_lst ?_
    | with_reducible refine rp_isi ?_
    | with_reducible refine rp_isit ?_
    | with_reducible refine rp_mth ?_
    | with_reducible refine rp_cmp2 ?_
    | with_reducible refine rp_neg ?_
    | with_reducible refine rp_t0 ?_
    | with_reducible refine rp_t1 ?_
    | with_reducible refine rp_lc ?_
    | with_reducible refine rp_lcL ?_
    | with_reducible refine rp_lstL ?_
    | with_reducible refine rp_catL ?_
    | with_reducible refine rp_listL ?_
    | with_reducible refine rp_of ?_
    | with_reducible refine rp_r1 ?_
    | with_reducible refine rp_r2 ?_
    | with_reducible refine rp_enum ?_
    | with_reducible refine rp_zip ?_
    | with_reducible refine op_nil ?_
    | with_reducible refine op_norm (by simp only [List.set_cons_succ, List.set_cons_zero, List.map_cons, List.map_nil, List.cons_append, List.nil_append]; rfl) (op_cons ?_)
    | with_reducible refine op_cons ?_
    | with_reducible refine op_asg ?_
    | with_reducible refine op_ifT ?_
    | with_reducible refine rt_and ?_
    | with_reducible refine rt_or ?_
    | with_reducible refine rt_not ?_
    | with_reducible refine rt_of ?_
    | with_reducible refine op_ret ?_
    | with_reducible refine op_new ?_
    | with_reducible refine op_app (by with_unfolding_all rfl) (by first | exact st_get | exact st_get2) ?_
    | with_reducible refine op_aug (by with_unfolding_all rfl) (by decide) ?_
    | with_reducible refine op_for ?_
    | with_reducible refine op_par ?_
    | with_reducible refine op_tp ?_
    | with_reducible refine op_seti (by with_unfolding_all rfl) ?_
    | with_reducible refine op_expr ?_
    | with_reducible refine op_doc ?_
    | with_reducible refine op_pass ?_
    | with_reducible refine op_retN ?_
    | with_reducible refine fin0 ?_
    | with_reducible refine fin1 ?_
    | with_reducible refine fino1 ?_
    | with_reducible refine fin2 ?_
    | refine ⟨_, _, _, _, rfl, st_get, lt_sz (by first | omega | (simp only [List.length_map, List.length_append, List.length_cons, List.length_nil]; omega)), st_set, ?_⟩
    | refine ⟨_, rfl, rngOk_in (by omega) (by omega), ?_⟩
    | refine ⟨_, src_live, ?_⟩
    | refine ⟨_, bi_live rfl, ?_⟩
    | (refine ⟨_, rfl, fun h => ?_, fun h => ?_⟩ <;> try (first | exact absurd h (by decide) | exact (f_t h).elim | exact (t_f h).elim))
    | refine ⟨_, rfl, ?_⟩
    | refine ⟨_, if_pos (by first | assumption | omega), ?_⟩
    | refine ⟨_, _, rfl, le_sz rfl, ?_⟩
    | refine ⟨_, _, rfl, rfl, ?_⟩
    | refine ⟨_, _, rfl, if_pos (by first | assumption | omega), ?_⟩
    | refine ⟨_, rfl, rfl, ?_⟩
    | refine ⟨rfl, ?_⟩
    | exact rfl
    | dsimp only)
    refine ⟨_, _, _, _, rfl, st_get, ixN_at ha0 ha1, st_set, ?_⟩
    refine ⟨_, _, rfl, Sp.one (fun z hz => ?_) (by rw [List.length_set]; omega)⟩
    rcases List.mem_or_eq_of_mem_set hz with h | h
    · exact (hx _ h).mono (by omega)
    · rw [h]; exact e3
  · exact ⟨_, _, rfl, Sp.one (fun z hz => (hx z hz).mono (by omega)) (by omega)⟩
theorem spoilt_ok {T : List Fn} {i iO b : Nat} (hT : T[i]? = some (f__law_spoilt iO i)) (hO : T[iO]? = some f__law_odd) (hb1 : 10 ≤ b) (hb : b ≤ 900) :
    ∀ (m : Nat) (ps : List Int), ps.length < 9 + 4 * m → 3 ≤ ps.length → (∀ x ∈ ps, 0 ≤ x ∧ x < 1000) → ∀ (n : Nat) (d : D), Nc b d → ∀ S : St',
    RP (FT T (n + 2 + m) i [.t d, .t (.lst (ps.map .int))] S) (fun v S' => S' = S ∧ ∃ d, v = .t d ∧ Nc (b + 1) d) noE := by
  intro m
  induction m with
  | zero =>
    intro ps hpl hp3 hp n d hd S
    refine rp_fn hT rfl rfl ?_
    simp only [f__law_spoilt, pad]
    have hr : slcD (.lst (ps.map .int)) (some 1) none = some (.lst ((ps.drop 1).map .int)) := ints_of (by omega)
    have hodd : ∀ (S : St'), RP (FT T (n + 1) iO [.t (.lst ((ps.drop 1).map .int))] S) (fun v S' => S' = S ∧ ∃ d, v = .t d ∧ Nc 10 d) noE := fun S => odd_ok hO n _ (by rw [List.length_drop]; omega) (fun x hx => hp x (List.mem_of_mem_drop hx)) S
    have hlt : (decide (((ps.map D.int).length : Int) < 9)) = true := by rw [List.length_map]; exact decide_eq_true (by omega)
    cases hd <;> repeat' (first
    | with_reducible refine rp_var (by with_unfolding_all rfl) ?_
    | refine ⟨_, hr, ?_⟩
    | with_reducible refine rp_lit ?_
    | with_reducible refine rp_glb ?_
    | with_reducible refine rp_bin ?_
    | with_reducible refine rp_cmp ?_
    | with_reducible refine rp_cons ?_
    | with_reducible refine rp_nil ?_
    | with_reducible refine rp_idx ?_
    | with_reducible refine rp_call ?_
    | with_reducible refine rp_bi ?_
    | with_reducible refine rp_fz ?_
    | with_reducible refine rp_and ?_
    | with_reducible refine rp_or ?_
    | with_reducible refine rp_not ?_
    | with_reducible refine rp_ifT ?_
    | with_reducible refine rp_slc ?_
    | with_reducible refine rp_p0 ?_
    | with_reducible refine rp_p1 ?_
    | with_reducible refine rp_tup ?_
    | with_reducible refine rp_lst ?_
    | with_reducible refine rp_isi ?_
    | with_reducible refine rp_isit ?_
    | with_reducible refine rp_mth ?_
    | with_reducible refine rp_cmp2 ?_
    | with_reducible refine rp_neg ?_
    | with_reducible refine rp_t0 ?_
    | with_reducible refine rp_t1 ?_
    | with_reducible refine rp_lc ?_
    | with_reducible refine rp_lcL ?_
    | with_reducible refine rp_lstL ?_
    | with_reducible refine rp_catL ?_
    | with_reducible refine rp_listL ?_
    | with_reducible refine rp_of ?_
    | with_reducible refine rp_r1 ?_
    | with_reducible refine rp_r2 ?_
    | with_reducible refine rp_enum ?_
    | with_reducible refine rp_zip ?_
    | with_reducible refine op_nil ?_
    | with_reducible refine op_norm (by simp only [List.set_cons_succ, List.set_cons_zero, List.map_cons, List.map_nil, List.cons_append, List.nil_append]; rfl) (op_cons ?_)
    | with_reducible refine op_cons ?_
    | with_reducible refine op_asg ?_
    | with_reducible refine op_ifT ?_
    | with_reducible refine rt_and ?_
    | with_reducible refine rt_or ?_
    | with_reducible refine rt_not ?_
    | with_reducible refine rt_of ?_
    | with_reducible refine op_ret ?_
    | with_reducible refine op_new ?_
    | with_reducible refine op_app (by with_unfolding_all rfl) (by first | exact st_get | exact st_get2) ?_
    | with_reducible refine op_aug (by with_unfolding_all rfl) (by decide) ?_
    | with_reducible refine op_for ?_
    | with_reducible refine op_par ?_
    | with_reducible refine op_tp ?_
    | with_reducible refine op_seti (by with_unfolding_all rfl) ?_
    | with_reducible refine op_expr ?_
    | with_reducible refine op_doc ?_
    | with_reducible refine op_pass ?_
    | with_reducible refine op_retN ?_
    | with_reducible refine fin0 ?_
    | with_reducible refine fin1 ?_
    | with_reducible refine fino1 ?_
    | with_reducible refine fin2 ?_
    | refine ⟨_, _, _, _, rfl, st_get, lt_sz (by first | omega | (simp only [List.length_map, List.length_append, List.length_cons, List.length_nil]; omega)), st_set, ?_⟩
    | refine ⟨_, rfl, rngOk_in (by omega) (by omega), ?_⟩
    | refine ⟨_, src_live, ?_⟩
    | refine ⟨_, bi_live rfl, ?_⟩
    | (refine ⟨_, rfl, fun h => ?_, fun h => ?_⟩ <;> try (first | exact absurd h (by decide) | exact (f_t h).elim | exact (t_f h).elim))
    | refine ⟨_, rfl, ?_⟩
    | refine ⟨_, if_pos (by first | assumption | omega), ?_⟩
    | refine ⟨_, _, rfl, le_sz rfl, ?_⟩
    | refine ⟨_, _, rfl, rfl, ?_⟩
    | refine ⟨_, _, rfl, if_pos (by first | assumption | omega), ?_⟩
    | refine ⟨_, rfl, rfl, ?_⟩
    | refine ⟨rfl, ?_⟩
    | exact rfl
    | dsimp only)
    all_goals first
      | exact RP.of_no (hodd _) fun v S1 ⟨e1, d', e2, e3⟩ => by subst e1; subst e2; exact fin0 ⟨rfl, d', rfl, e3.mono (by omega)⟩
      | exact Bool.noConfusion (hlt.symm.trans h)
  | succ m ih =>
    intro ps hpl hp3 hp n d hd S
    refine rp_fn (n := n + 2 + m) hT rfl rfl ?_
    simp only [f__law_spoilt, pad]
    have hr : slcD (.lst (ps.map .int)) (some 1) none = some (.lst ((ps.drop 1).map .int)) := ints_of (by omega)
    have hodd : ∀ (S : St') (k : Nat), k + 2 ≤ ps.length → RP (FT T (n + 2 + m) iO [.t (.lst ((ps.drop k).map .int))] S) (fun v S' => S' = S ∧ ∃ d, v = .t d ∧ Nc (b + 1) d) noE := fun S k hk => by
      rw [show n + 2 + m = (n + 1 + m) + 1 by omega]
      exact RP.of_no (odd_ok hO (n + 1 + m) _ (by rw [List.length_drop]; omega) (fun x hx => hp x (List.mem_of_mem_drop hx)) S) fun v S1 ⟨e1, d', e2, e3⟩ => ⟨e1, d', e2, e3.mono (by omega)⟩
    have g0 : idxD (.lst (ps.map .int)) (.int 0) = some (.int (sget ps 0)) := at_int (j := 0) (by omega)
    have g1 : idxD (.lst (ps.map .int)) (.int 1) = some (.int (sget ps 1)) := at_int (j := 1) (by omega)
    have g2 : idxD (.lst (ps.map .int)) (.int 2) = some (.int (sget ps 2)) := at_int (j := 2) (by omega)
    have od1 := hodd S 1 (by omega)
    have fin1' : ∀ v S1, (S1 = S ∧ ∃ d, v = .t d ∧ Nc (b + 1) d) → RP (finish S.length v S1) (fun v S' => S' = S ∧ ∃ d, v = .t d ∧ Nc (b + 1) d) noE := fun v S1 ⟨e1, d', e2, e3⟩ => by
      subst e1; subst e2
      exact fin0 ⟨rfl, d', rfl, e3⟩
    have tailT : ∀ (way : Int) (at_ : Int) (d : D) (S' : St') (k : Nat) (ys : List D) (ρ' : Ev), ρ' = [some (.t d), some (.t (.lst (ps.map .int))), some (.o k), some (.t (.int at_)), some (.t (.int way))] → Sp b S S' k ys → OP (execB (FT T (n + 2 + m)) [(.ife (.cmp .eq (.isi (.var 0) .tuple) (.cmp .eq (.var 4) (.lit (D.int 4)))) [(.ret (.var 2))] []), (.ret (.bi .tuple [(.var 2)]))] ρ' S') (fun _ S'' => (S''.take S.length = S ∧ ∃ d, SV.t .non = .t d ∧ Nc (b + 1) d)) noN noN { rt := fun v S'' => RP (finish S.length v S'') (fun v S' => S' = S ∧ ∃ d, v = .t d ∧ Nc (b + 1) d) noE, ex := fun c p _ S'' => noE c p (S''.take S.length) } := by
      intro way at_ d S' k ys ρ' e hsp
      subst e
      have hpk : peek S' (.o k) = some (.lst ys) := by simp only [peek, hsp.get]
      have htp : bi2 .tuple S' [.o k] = some (.tup ys) := by simp only [bi2, peeks, hpk, Option.map_some, Option.bind_some, biD]
      repeat' (first
    | with_reducible refine rp_var (by with_unfolding_all rfl) ?_
    | refine ⟨_, htp, ?_⟩
    | with_reducible refine rp_lit ?_
    | with_reducible refine rp_glb ?_
    | with_reducible refine rp_bin ?_
    | with_reducible refine rp_cmp ?_
    | with_reducible refine rp_cons ?_
    | with_reducible refine rp_nil ?_
    | with_reducible refine rp_idx ?_
    | with_reducible refine rp_call ?_
    | with_reducible refine rp_bi ?_
    | with_reducible refine rp_fz ?_
    | with_reducible refine rp_and ?_
    | with_reducible refine rp_or ?_
    | with_reducible refine rp_not ?_
    | with_reducible refine rp_ifT ?_
    | with_reducible refine rp_slc ?_
    | with_reducible refine rp_p0 ?_
    | with_reducible refine rp_p1 ?_
    | with_reducible refine rp_tup ?_
    | with_reducible refine rp_lst ?_
    | with_reducible refine rp_isi ?_
    | with_reducible refine rp_isit ?_
    | with_reducible refine rp_mth ?_
    | with_reducible refine rp_cmp2 ?_
    | with_reducible refine rp_neg ?_
    | with_reducible refine rp_t0 ?_
    | with_reducible refine rp_t1 ?_
    | with_reducible refine rp_lc ?_
    | with_reducible refine rp_lcL ?_
    | with_reducible refine rp_lstL ?_
    | with_reducible refine rp_catL ?_
    | with_reducible refine rp_listL ?_
    | with_reducible refine rp_of ?_
    | with_reducible refine rp_r1 ?_
    | with_reducible refine rp_r2 ?_
    | with_reducible refine rp_enum ?_
    | with_reducible refine rp_zip ?_
    | with_reducible refine op_nil ?_
    | with_reducible refine op_norm (by simp only [List.set_cons_succ, List.set_cons_zero, List.map_cons, List.map_nil, List.cons_append, List.nil_append]; rfl) (op_cons ?_)
    | with_reducible refine op_cons ?_
    | with_reducible refine op_asg ?_
    | with_reducible refine op_ifT ?_
    | with_reducible refine rt_and ?_
    | with_reducible refine rt_or ?_
    | with_reducible refine rt_not ?_
    | with_reducible refine rt_of ?_
    | with_reducible refine op_ret ?_
    | with_reducible refine op_new ?_
    | with_reducible refine op_app (by with_unfolding_all rfl) (by first | exact st_get | exact st_get2) ?_
    | with_reducible refine op_aug (by with_unfolding_all rfl) (by decide) ?_
    | with_reducible refine op_for ?_
    | with_reducible refine op_par ?_
    | with_reducible refine op_tp ?_
    | with_reducible refine op_seti (by with_unfolding_all rfl) ?_
    | with_reducible refine op_expr ?_
    | with_reducible refine op_doc ?_
    | with_reducible refine op_pass ?_
    | with_reducible refine op_retN ?_
    | with_reducible refine fin0 ?_
    | with_reducible refine fin1 ?_
    | with_reducible refine fino1 ?_
    | with_reducible refine fin2 ?_
    | refine ⟨_, _, _, _, rfl, st_get, lt_sz (by first | omega | (simp only [List.length_map, List.length_append, List.length_cons, List.length_nil]; omega)), st_set, ?_⟩
    | refine ⟨_, rfl, rngOk_in (by omega) (by omega), ?_⟩
    | refine ⟨_, src_live, ?_⟩
    | refine ⟨_, bi_live rfl, ?_⟩
    | (refine ⟨_, rfl, fun h => ?_, fun h => ?_⟩ <;> try (first | exact absurd h (by decide) | exact (f_t h).elim | exact (t_f h).elim))
    | refine ⟨_, rfl, ?_⟩
    | refine ⟨_, if_pos (by first | assumption | omega), ?_⟩
    | refine ⟨_, _, rfl, le_sz rfl, ?_⟩
    | refine ⟨_, _, rfl, rfl, ?_⟩
    | refine ⟨_, _, rfl, if_pos (by first | assumption | omega), ?_⟩
    | refine ⟨_, rfl, rfl, ?_⟩
    | refine ⟨rfl, ?_⟩
    | exact rfl
    | dsimp only)
      · exact finO hsp.lo hsp.get hsp.tk ⟨rfl, _, rfl, .lst hsp.nc hsp.len⟩
      · exact finT hsp.tk ⟨rfl, _, rfl, .tup hsp.nc hsp.len⟩
    cases hd with
    | @tup xs hx hl =>
      repeat' (first
    | with_reducible refine rp_var (by with_unfolding_all rfl) ?_
    | refine ⟨_, hr, ?_⟩
    | refine ⟨_, g0, ?_⟩
    | refine ⟨_, g1, ?_⟩
    | refine ⟨_, g2, ?_⟩
    | refine ⟨_, .inr rfl, ?_⟩
    | with_reducible refine rp_lit ?_
    | with_reducible refine rp_glb ?_
    | with_reducible refine rp_bin ?_
    | with_reducible refine rp_cmp ?_
    | with_reducible refine rp_cons ?_
    | with_reducible refine rp_nil ?_
    | with_reducible refine rp_idx ?_
    | with_reducible refine rp_call ?_
    | with_reducible refine rp_bi ?_
    | with_reducible refine rp_fz ?_
    | with_reducible refine rp_and ?_
    | with_reducible refine rp_or ?_
    | with_reducible refine rp_not ?_
    | with_reducible refine rp_ifT ?_
    | with_reducible refine rp_slc ?_
    | with_reducible refine rp_p0 ?_
    | with_reducible refine rp_p1 ?_
    | with_reducible refine rp_tup ?_
    | with_reducible refine rp_lst ?_
    | with_reducible refine rp_isi ?_
    | with_reducible refine rp_isit ?_
    | with_reducible refine rp_mth ?_
    | with_reducible refine rp_cmp2 ?_
    | with_reducible refine rp_neg ?_
    | with_reducible refine rp_t0 ?_
    | with_reducible refine rp_t1 ?_
    | with_reducible refine rp_lc ?_
    | with_reducible refine rp_lcL ?_
    | with_reducible refine rp_lstL ?_
    | with_reducible refine rp_catL ?_
    | with_reducible refine rp_listL ?_
    | with_reducible refine rp_of ?_
    | with_reducible refine rp_r1 ?_
    | with_reducible refine rp_r2 ?_
    | with_reducible refine rp_enum ?_
    | with_reducible refine rp_zip ?_
    | with_reducible refine op_nil ?_
    | with_reducible refine op_norm (by simp only [List.set_cons_succ, List.set_cons_zero, List.map_cons, List.map_nil, List.cons_append, List.nil_append]; rfl) (op_cons ?_)
    | with_reducible refine op_cons ?_
    | with_reducible refine op_asg ?_
    | with_reducible refine op_ifT ?_
    | with_reducible refine rt_and ?_
    | with_reducible refine rt_or ?_
    | with_reducible refine rt_not ?_
    | with_reducible refine rt_of ?_
    | with_reducible refine op_ret ?_
    | with_reducible refine op_new ?_
    | with_reducible refine op_app (by with_unfolding_all rfl) (by first | exact st_get | exact st_get2) ?_
    | with_reducible refine op_aug (by with_unfolding_all rfl) (by decide) ?_
    | with_reducible refine op_for ?_
    | with_reducible refine op_par ?_
    | with_reducible refine op_tp ?_
    | with_reducible refine op_seti (by with_unfolding_all rfl) ?_
    | with_reducible refine op_expr ?_
    | with_reducible refine op_doc ?_
    | with_reducible refine op_pass ?_
    | with_reducible refine op_retN ?_
    | with_reducible refine fin0 ?_
    | with_reducible refine fin1 ?_
    | with_reducible refine fino1 ?_
    | with_reducible refine fin2 ?_
    | refine ⟨_, _, _, _, rfl, st_get, lt_sz (by first | omega | (simp only [List.length_map, List.length_append, List.length_cons, List.length_nil]; omega)), st_set, ?_⟩
    | refine ⟨_, rfl, rngOk_in (by omega) (by omega), ?_⟩
    | refine ⟨_, src_live, ?_⟩
    | refine ⟨_, bi_live rfl, ?_⟩
    | (refine ⟨_, rfl, fun h => ?_, fun h => ?_⟩ <;> try (first | exact absurd h (by decide) | exact (f_t h).elim | exact (t_f h).elim))
    | refine ⟨_, rfl, ?_⟩
    | refine ⟨_, if_pos (by first | assumption | omega), ?_⟩
    | refine ⟨_, _, rfl, le_sz rfl, ?_⟩
    | refine ⟨_, _, rfl, rfl, ?_⟩
    | refine ⟨_, _, rfl, if_pos (by first | assumption | omega), ?_⟩
    | refine ⟨_, rfl, rfl, ?_⟩
    | refine ⟨rfl, ?_⟩
    | exact rfl
    | dsimp only)
      · exact RP.of_no od1 fin1'
      · exact RP.of_no od1 fin1'
      · exact RP.of_no od1 fin1'
      · rename_i i1 i2 i3
        have hxs : 0 < (xs.length : Int) := by
          cases xs with
          | nil => exact absurd i2 (by decide)
          | cons => exact Int.natCast_pos.mpr (Nat.succ_pos _)
        have h9 : 9 ≤ ps.length := by
          have := of_decide_eq_false i3
          rw [List.length_map] at this
          omega
        have hsp : ∀ x ∈ xs, ∀ S', RP (FT T (n + 2 + m) i [.t x, .t (.lst ((ps.drop 4).map .int))] S') (fun v S'' => S'' = S' ∧ ∃ d, v = .t d ∧ Nc (b + 1) d) noE := fun x hxx S' => ih (ps.drop 4) (by rw [List.length_drop]; omega) (by rw [List.length_drop]; omega) (fun x hx => hp x (List.mem_of_mem_drop hx)) n x (hx x hxx) S'
        refine ⟨_, if_pos hxs, ?_⟩
        repeat' (first
    | with_reducible refine rp_var (by with_unfolding_all rfl) ?_
    | refine ⟨_, hr, ?_⟩
    | refine ⟨_, g0, ?_⟩
    | refine ⟨_, g1, ?_⟩
    | refine ⟨_, g2, ?_⟩
    | refine op_cons (OP.imp (chain_ok (b := b) hb h9 hx hl (Int.emod_nonneg _ (by omega)) (Int.emod_lt_of_pos _ hxs) (fun S' => hodd S' 3 (by omega)) hsp) (fun ρ' S' ⟨k, ys, e, hs⟩ => tailT _ _ _ _ _ _ _ e hs) (fun _ _ h => h) (fun _ _ h => h.elim) (fun _ _ h => h.elim) (fun _ _ _ _ h => h))
    | with_reducible refine rp_lit ?_
    | with_reducible refine rp_glb ?_
    | with_reducible refine rp_bin ?_
    | with_reducible refine rp_cmp ?_
    | with_reducible refine rp_cons ?_
    | with_reducible refine rp_nil ?_
    | with_reducible refine rp_idx ?_
    | with_reducible refine rp_call ?_
    | with_reducible refine rp_bi ?_
    | with_reducible refine rp_fz ?_
    | with_reducible refine rp_and ?_
    | with_reducible refine rp_or ?_
    | with_reducible refine rp_not ?_
    | with_reducible refine rp_ifT ?_
    | with_reducible refine rp_slc ?_
    | with_reducible refine rp_p0 ?_
    | with_reducible refine rp_p1 ?_
    | with_reducible refine rp_tup ?_
    | with_reducible refine rp_lst ?_
    | with_reducible refine rp_isi ?_
    | with_reducible refine rp_isit ?_
    | with_reducible refine rp_mth ?_
    | with_reducible refine rp_cmp2 ?_
    | with_reducible refine rp_neg ?_
    | with_reducible refine rp_t0 ?_
    | with_reducible refine rp_t1 ?_
    | with_reducible refine rp_lc ?_
    | with_reducible refine rp_lcL ?_
    | with_reducible refine rp_lstL ?_
    | with_reducible refine rp_catL ?_
    | with_reducible refine rp_listL ?_
    | with_reducible refine rp_of ?_
    | with_reducible refine rp_r1 ?_
    | with_reducible refine rp_r2 ?_
    | with_reducible refine rp_enum ?_
    | with_reducible refine rp_zip ?_
    | with_reducible refine op_nil ?_
    | with_reducible refine op_norm (by simp only [List.set_cons_succ, List.set_cons_zero, List.map_cons, List.map_nil, List.cons_append, List.nil_append]; rfl) (op_cons ?_)
    | with_reducible refine op_cons ?_
    | with_reducible refine op_asg ?_
    | with_reducible refine op_ifT ?_
    | with_reducible refine rt_and ?_
    | with_reducible refine rt_or ?_
    | with_reducible refine rt_not ?_
    | with_reducible refine rt_of ?_
    | with_reducible refine op_ret ?_
    | with_reducible refine op_new ?_
    | with_reducible refine op_app (by with_unfolding_all rfl) (by first | exact st_get | exact st_get2) ?_
    | with_reducible refine op_aug (by with_unfolding_all rfl) (by decide) ?_
    | with_reducible refine op_for ?_
    | with_reducible refine op_par ?_
    | with_reducible refine op_tp ?_
    | with_reducible refine op_seti (by with_unfolding_all rfl) ?_
    | with_reducible refine op_expr ?_
    | with_reducible refine op_doc ?_
    | with_reducible refine op_pass ?_
    | with_reducible refine op_retN ?_
    | with_reducible refine fin0 ?_
    | with_reducible refine fin1 ?_
    | with_reducible refine fino1 ?_
    | with_reducible refine fin2 ?_
    | refine ⟨_, _, _, _, rfl, st_get, lt_sz (by first | omega | (simp only [List.length_map, List.length_append, List.length_cons, List.length_nil]; omega)), st_set, ?_⟩
    | refine ⟨_, rfl, rngOk_in (by omega) (by omega), ?_⟩
    | refine ⟨_, src_live, ?_⟩
    | refine ⟨_, bi_live rfl, ?_⟩
    | (refine ⟨_, rfl, fun h => ?_, fun h => ?_⟩ <;> try (first | exact absurd h (by decide) | exact (f_t h).elim | exact (t_f h).elim))
    | refine ⟨_, rfl, ?_⟩
    | refine ⟨_, if_pos (by first | assumption | omega), ?_⟩
    | refine ⟨_, _, rfl, le_sz rfl, ?_⟩
    | refine ⟨_, _, rfl, rfl, ?_⟩
    | refine ⟨_, _, rfl, if_pos (by first | assumption | omega), ?_⟩
    | refine ⟨_, rfl, rfl, ?_⟩
    | refine ⟨rfl, ?_⟩
    | exact rfl
    | dsimp only)
    | @lst xs hx hl =>
      repeat' (first
    | with_reducible refine rp_var (by with_unfolding_all rfl) ?_
    | refine ⟨_, hr, ?_⟩
    | refine ⟨_, g0, ?_⟩
    | refine ⟨_, g1, ?_⟩
    | refine ⟨_, g2, ?_⟩
    | refine ⟨_, .inl rfl, ?_⟩
    | with_reducible refine rp_lit ?_
    | with_reducible refine rp_glb ?_
    | with_reducible refine rp_bin ?_
    | with_reducible refine rp_cmp ?_
    | with_reducible refine rp_cons ?_
    | with_reducible refine rp_nil ?_
    | with_reducible refine rp_idx ?_
    | with_reducible refine rp_call ?_
    | with_reducible refine rp_bi ?_
    | with_reducible refine rp_fz ?_
    | with_reducible refine rp_and ?_
    | with_reducible refine rp_or ?_
    | with_reducible refine rp_not ?_
    | with_reducible refine rp_ifT ?_
    | with_reducible refine rp_slc ?_
    | with_reducible refine rp_p0 ?_
    | with_reducible refine rp_p1 ?_
    | with_reducible refine rp_tup ?_
    | with_reducible refine rp_lst ?_
    | with_reducible refine rp_isi ?_
    | with_reducible refine rp_isit ?_
    | with_reducible refine rp_mth ?_
    | with_reducible refine rp_cmp2 ?_
    | with_reducible refine rp_neg ?_
    | with_reducible refine rp_t0 ?_
    | with_reducible refine rp_t1 ?_
    | with_reducible refine rp_lc ?_
    | with_reducible refine rp_lcL ?_
    | with_reducible refine rp_lstL ?_
    | with_reducible refine rp_catL ?_
    | with_reducible refine rp_listL ?_
    | with_reducible refine rp_of ?_
    | with_reducible refine rp_r1 ?_
    | with_reducible refine rp_r2 ?_
    | with_reducible refine rp_enum ?_
    | with_reducible refine rp_zip ?_
    | with_reducible refine op_nil ?_
    | with_reducible refine op_norm (by simp only [List.set_cons_succ, List.set_cons_zero, List.map_cons, List.map_nil, List.cons_append, List.nil_append]; rfl) (op_cons ?_)
    | with_reducible refine op_cons ?_
    | with_reducible refine op_asg ?_
    | with_reducible refine op_ifT ?_
    | with_reducible refine rt_and ?_
    | with_reducible refine rt_or ?_
    | with_reducible refine rt_not ?_
    | with_reducible refine rt_of ?_
    | with_reducible refine op_ret ?_
    | with_reducible refine op_new ?_
    | with_reducible refine op_app (by with_unfolding_all rfl) (by first | exact st_get | exact st_get2) ?_
    | with_reducible refine op_aug (by with_unfolding_all rfl) (by decide) ?_
    | with_reducible refine op_for ?_
    | with_reducible refine op_par ?_
    | with_reducible refine op_tp ?_
    | with_reducible refine op_seti (by with_unfolding_all rfl) ?_
    | with_reducible refine op_expr ?_
    | with_reducible refine op_doc ?_
    | with_reducible refine op_pass ?_
    | with_reducible refine op_retN ?_
    | with_reducible refine fin0 ?_
    | with_reducible refine fin1 ?_
    | with_reducible refine fino1 ?_
    | with_reducible refine fin2 ?_
    | refine ⟨_, _, _, _, rfl, st_get, lt_sz (by first | omega | (simp only [List.length_map, List.length_append, List.length_cons, List.length_nil]; omega)), st_set, ?_⟩
    | refine ⟨_, rfl, rngOk_in (by omega) (by omega), ?_⟩
    | refine ⟨_, src_live, ?_⟩
    | refine ⟨_, bi_live rfl, ?_⟩
    | (refine ⟨_, rfl, fun h => ?_, fun h => ?_⟩ <;> try (first | exact absurd h (by decide) | exact (f_t h).elim | exact (t_f h).elim))
    | refine ⟨_, rfl, ?_⟩
    | refine ⟨_, if_pos (by first | assumption | omega), ?_⟩
    | refine ⟨_, _, rfl, le_sz rfl, ?_⟩
    | refine ⟨_, _, rfl, rfl, ?_⟩
    | refine ⟨_, _, rfl, if_pos (by first | assumption | omega), ?_⟩
    | refine ⟨_, rfl, rfl, ?_⟩
    | refine ⟨rfl, ?_⟩
    | exact rfl
    | dsimp only)
      · exact RP.of_no od1 fin1'
      · exact RP.of_no od1 fin1'
      · exact RP.of_no od1 fin1'
      · rename_i i1 i2 i3
        have hxs : 0 < (xs.length : Int) := by
          cases xs with
          | nil => exact absurd i2 (by decide)
          | cons => exact Int.natCast_pos.mpr (Nat.succ_pos _)
        have h9 : 9 ≤ ps.length := by
          have := of_decide_eq_false i3
          rw [List.length_map] at this
          omega
        have hsp : ∀ x ∈ xs, ∀ S', RP (FT T (n + 2 + m) i [.t x, .t (.lst ((ps.drop 4).map .int))] S') (fun v S'' => S'' = S' ∧ ∃ d, v = .t d ∧ Nc (b + 1) d) noE := fun x hxx S' => ih (ps.drop 4) (by rw [List.length_drop]; omega) (by rw [List.length_drop]; omega) (fun x hx => hp x (List.mem_of_mem_drop hx)) n x (hx x hxx) S'
        refine ⟨_, if_pos hxs, ?_⟩
        repeat' (first
    | with_reducible refine rp_var (by with_unfolding_all rfl) ?_
    | refine ⟨_, hr, ?_⟩
    | refine ⟨_, g0, ?_⟩
    | refine ⟨_, g1, ?_⟩
    | refine ⟨_, g2, ?_⟩
    | refine op_cons (OP.imp (chain_ok (b := b) hb h9 hx hl (Int.emod_nonneg _ (by omega)) (Int.emod_lt_of_pos _ hxs) (fun S' => hodd S' 3 (by omega)) hsp) (fun ρ' S' ⟨k, ys, e, hs⟩ => tailT _ _ _ _ _ _ _ e hs) (fun _ _ h => h) (fun _ _ h => h.elim) (fun _ _ h => h.elim) (fun _ _ _ _ h => h))
    | with_reducible refine rp_lit ?_
    | with_reducible refine rp_glb ?_
    | with_reducible refine rp_bin ?_
    | with_reducible refine rp_cmp ?_
    | with_reducible refine rp_cons ?_
    | with_reducible refine rp_nil ?_
    | with_reducible refine rp_idx ?_
    | with_reducible refine rp_call ?_
    | with_reducible refine rp_bi ?_
    | with_reducible refine rp_fz ?_
    | with_reducible refine rp_and ?_
    | with_reducible refine rp_or ?_
    | with_reducible refine rp_not ?_
    | with_reducible refine rp_ifT ?_
    | with_reducible refine rp_slc ?_
    | with_reducible refine rp_p0 ?_
    | with_reducible refine rp_p1 ?_
    | with_reducible refine rp_tup ?_
    | with_reducible refine rp_lst ?_
    | with_reducible refine rp_isi ?_
    | with_reducible refine rp_isit ?_
    | with_reducible refine rp_mth ?_
    | with_reducible refine rp_cmp2 ?_
    | with_reducible refine rp_neg ?_
    | with_reducible refine rp_t0 ?_
    | with_reducible refine rp_t1 ?_
    | with_reducible refine rp_lc ?_
    | with_reducible refine rp_lcL ?_
    | with_reducible refine rp_lstL ?_
    | with_reducible refine rp_catL ?_
    | with_reducible refine rp_listL ?_
    | with_reducible refine rp_of ?_
    | with_reducible refine rp_r1 ?_
    | with_reducible refine rp_r2 ?_
    | with_reducible refine rp_enum ?_
    | with_reducible refine rp_zip ?_
    | with_reducible refine op_nil ?_
    | with_reducible refine op_norm (by simp only [List.set_cons_succ, List.set_cons_zero, List.map_cons, List.map_nil, List.cons_append, List.nil_append]; rfl) (op_cons ?_)
    | with_reducible refine op_cons ?_
    | with_reducible refine op_asg ?_
    | with_reducible refine op_ifT ?_
    | with_reducible refine rt_and ?_
    | with_reducible refine rt_or ?_
    | with_reducible refine rt_not ?_
    | with_reducible refine rt_of ?_
    | with_reducible refine op_ret ?_
    | with_reducible refine op_new ?_
    | with_reducible refine op_app (by with_unfolding_all rfl) (by first | exact st_get | exact st_get2) ?_
    | with_reducible refine op_aug (by with_unfolding_all rfl) (by decide) ?_
    | with_reducible refine op_for ?_
    | with_reducible refine op_par ?_
    | with_reducible refine op_tp ?_
    | with_reducible refine op_seti (by with_unfolding_all rfl) ?_
    | with_reducible refine op_expr ?_
    | with_reducible refine op_doc ?_
    | with_reducible refine op_pass ?_
    | with_reducible refine op_retN ?_
    | with_reducible refine fin0 ?_
    | with_reducible refine fin1 ?_
    | with_reducible refine fino1 ?_
    | with_reducible refine fin2 ?_
    | refine ⟨_, _, _, _, rfl, st_get, lt_sz (by first | omega | (simp only [List.length_map, List.length_append, List.length_cons, List.length_nil]; omega)), st_set, ?_⟩
    | refine ⟨_, rfl, rngOk_in (by omega) (by omega), ?_⟩
    | refine ⟨_, src_live, ?_⟩
    | refine ⟨_, bi_live rfl, ?_⟩
    | (refine ⟨_, rfl, fun h => ?_, fun h => ?_⟩ <;> try (first | exact absurd h (by decide) | exact (f_t h).elim | exact (t_f h).elim))
    | refine ⟨_, rfl, ?_⟩
    | refine ⟨_, if_pos (by first | assumption | omega), ?_⟩
    | refine ⟨_, _, rfl, le_sz rfl, ?_⟩
    | refine ⟨_, _, rfl, rfl, ?_⟩
    | refine ⟨_, _, rfl, if_pos (by first | assumption | omega), ?_⟩
    | refine ⟨_, rfl, rfl, ?_⟩
    | refine ⟨rfl, ?_⟩
    | exact rfl
    | dsimp only)
    | _ =>
      repeat' (first
    | with_reducible refine rp_var (by with_unfolding_all rfl) ?_
    | refine ⟨_, hr, ?_⟩
    | with_reducible refine rp_lit ?_
    | with_reducible refine rp_glb ?_
    | with_reducible refine rp_bin ?_
    | with_reducible refine rp_cmp ?_
    | with_reducible refine rp_cons ?_
    | with_reducible refine rp_nil ?_
    | with_reducible refine rp_idx ?_
    | with_reducible refine rp_call ?_
    | with_reducible refine rp_bi ?_
    | with_reducible refine rp_fz ?_
    | with_reducible refine rp_and ?_
    | with_reducible refine rp_or ?_
    | with_reducible refine rp_not ?_
    | with_reducible refine rp_ifT ?_
    | with_reducible refine rp_slc ?_
    | with_reducible refine rp_p0 ?_
    | with_reducible refine rp_p1 ?_
    | with_reducible refine rp_tup ?_
    | with_reducible refine rp_lst ?_
    | with_reducible refine rp_isi ?_
    | with_reducible refine rp_isit ?_
    | with_reducible refine rp_mth ?_
    | with_reducible refine rp_cmp2 ?_
    | with_reducible refine rp_neg ?_
    | with_reducible refine rp_t0 ?_
    | with_reducible refine rp_t1 ?_
    | with_reducible refine rp_lc ?_
    | with_reducible refine rp_lcL ?_
    | with_reducible refine rp_lstL ?_
    | with_reducible refine rp_catL ?_
    | with_reducible refine rp_listL ?_
    | with_reducible refine rp_of ?_
    | with_reducible refine rp_r1 ?_
    | with_reducible refine rp_r2 ?_
    | with_reducible refine rp_enum ?_
    | with_reducible refine rp_zip ?_
    | with_reducible refine op_nil ?_
    | with_reducible refine op_norm (by simp only [List.set_cons_succ, List.set_cons_zero, List.map_cons, List.map_nil, List.cons_append, List.nil_append]; rfl) (op_cons ?_)
    | with_reducible refine op_cons ?_
    | with_reducible refine op_asg ?_
    | with_reducible refine op_ifT ?_
    | with_reducible refine rt_and ?_
    | with_reducible refine rt_or ?_
    | with_reducible refine rt_not ?_
    | with_reducible refine rt_of ?_
    | with_reducible refine op_ret ?_
    | with_reducible refine op_new ?_
    | with_reducible refine op_app (by with_unfolding_all rfl) (by first | exact st_get | exact st_get2) ?_
    | with_reducible refine op_aug (by with_unfolding_all rfl) (by decide) ?_
    | with_reducible refine op_for ?_
    | with_reducible refine op_par ?_
    | with_reducible refine op_tp ?_
    | with_reducible refine op_seti (by with_unfolding_all rfl) ?_
    | with_reducible refine op_expr ?_
    | with_reducible refine op_doc ?_
    | with_reducible refine op_pass ?_
    | with_reducible refine op_retN ?_
    | with_reducible refine fin0 ?_
    | with_reducible refine fin1 ?_
    | with_reducible refine fino1 ?_
    | with_reducible refine fin2 ?_
    | refine ⟨_, _, _, _, rfl, st_get, lt_sz (by first | omega | (simp only [List.length_map, List.length_append, List.length_cons, List.length_nil]; omega)), st_set, ?_⟩
    | refine ⟨_, rfl, rngOk_in (by omega) (by omega), ?_⟩
    | refine ⟨_, src_live, ?_⟩
    | refine ⟨_, bi_live rfl, ?_⟩
    | (refine ⟨_, rfl, fun h => ?_, fun h => ?_⟩ <;> try (first | exact absurd h (by decide) | exact (f_t h).elim | exact (t_f h).elim))
    | refine ⟨_, rfl, ?_⟩
    | refine ⟨_, if_pos (by first | assumption | omega), ?_⟩
    | refine ⟨_, _, rfl, le_sz rfl, ?_⟩
    | refine ⟨_, _, rfl, rfl, ?_⟩
    | refine ⟨_, _, rfl, if_pos (by first | assumption | omega), ?_⟩
    | refine ⟨_, rfl, rfl, ?_⟩
    | refine ⟨rfl, ?_⟩
    | exact rfl
    | dsimp only)
      exact RP.of_no od1 fin1'
end M

/-! a drawn ground is one, by the readings -/
namespace M
open PySem PySem.Spec PyProof.Rows L2
theorem NameOk.nameS {w : Str} (h : NameOk w) : M.nameS w = true := by
  simp only [M.nameS, Bool.and_eq_true, decide_eq_true_eq, Bool.not_eq_true', decide_eq_false_iff_not, List.all_eq_true]
  exact ⟨⟨⟨h.pos, h.le⟩, h.bar⟩, fun c hc => decide_eq_true (h.let_ c hc)⟩
theorem colB_colD {c : Col} (h : ColOk c) : colB (colD c) = true := by
  simp only [colD, colB, nameB, fromB, blB, h.name.nameS, Bool.and_true, Bool.true_and, Bool.and_eq_true, decide_eq_true_eq]
  exact ⟨h.lo, h.hi⟩
theorem namesOf_cols (cs : List Col) : namesOf (cs.map colD) = cs.map Col.name := by rw [namesOf, List.map_map]; rfl
theorem namesOf_tabs (ts : List Tab) : namesOf (ts.map tabD) = ts.map Tab.name := by rw [namesOf, List.map_map]; rfl
theorem tabB_tabD {t : Tab} (h : TabOk t) : tabB (tabD t) = true := by
  have h1 : (t.cols.map colD).all colB = true := by
    rw [List.all_map, List.all_eq_true]
    exact fun c hc => colB_colD (h.cols.each c hc)
  have h2 : (((t.cols.map colD).take t.key.toNat).any trdB) = false := by
    rw [← List.map_take, List.any_map, List.any_eq_false]
    intro c hc
    have := h.keyN c hc
    simp only [Function.comp, colD, trdB, this]
    exact Bool.false_ne_true
  have h3 : fromB (.int t.key) 0 t.cols.length = true := by
    simp only [fromB, Bool.and_eq_true, decide_eq_true_eq]
    exact ⟨h.key0, h.keyL⟩
  simp only [tabD, tabB, nameB, h.name.nameS, h1, h2, h3, intD, namesOf_cols, h.cols.nd, Bool.true_and, Bool.and_true, decide_true, Bool.not_false, Bool.and_eq_true, decide_eq_true_eq, List.length_map]
  exact ⟨h.len1, h.len4⟩
theorem tabLe_name {a b : Tab} (h : tabLe a b = true) (hn : a.name ≠ b.name) : a.name.cps.toList < b.name.cps.toList := by
  have e : dlt (tabD b) (tabD a) = decide (b.name.cps.toList < a.name.cps.toList) := by
    unfold dlt
    simp only [tabD, toPy, toPys]
    rw [PySem.W.dataLt_tuple, PySem.W.dataLt_all_no, PySem.W.dataLt_str]
    · simp [PySem.W.alike]
    · simp only [PyData.eqv, beq_eq_false_iff_ne, ne_eq]
      exact fun e => hn e.symm
  unfold tabLe dle at h
  rw [e] at h
  simp only [Bool.not_eq_true', decide_eq_false_iff_not] at h
  apply Classical.byContradiction
  intro h'
  exact hn (str_ext (List.le_antisymm (List.not_lt.mp h) (List.not_lt.mp h')))
theorem tabLe_trans (a b c : Tab) (h1 : tabLe a b = true) (h2 : tabLe b c = true) : tabLe a c = true := dle_trans _ _ _ h1 h2
theorem tabLe_total (a b : Tab) : (tabLe a b || tabLe b a) = true := dle_total _ _
theorem groundB_ok {us : List Tab} {top : Int} (h : GroundOk us top) : groundB (.tup ((us.mergeSort tabLe).map tabD)) = true := by
  have hs := sorted_ground h
  have sp : (us.mergeSort tabLe).Pairwise fun a b => tabLe a b = true := List.pairwise_mergeSort tabLe_trans tabLe_total us
  generalize us.mergeSort tabLe = ts at hs sp
  have h1 : (ts.map tabD).all tabB = true := by
    rw [List.all_map, List.all_eq_true]
    exact fun t ht => tabB_tabD (hs.each t ht)
  have h2 : rises (namesOf (ts.map tabD)) = true := by
    rw [namesOf_tabs, rises_pw]
    have nd := List.pairwise_map.mp hs.nd
    exact List.pairwise_map.mpr ((List.Pairwise.and sp nd).imp fun ⟨a, b⟩ => tabLe_name a b)
  simp only [groundB, h1, h2, Bool.and_true, List.length_map, Bool.and_eq_true, decide_eq_true_eq]
  exact ⟨hs.len1, hs.len4⟩
theorem Nc.name {w : Str} (h : NameOk w) : Nc 10 (.str w) := .str h.let_.ok (by have := h.le; omega)
theorem Nc.col {c : Col} (h : ColOk c) : Nc 10 (colD c) := .tup (fun x hx => by
  simp only [List.mem_cons, List.not_mem_nil, or_false] at hx
  rcases hx with rfl | rfl | rfl
  · exact .name h.name
  · exact .int _
  · exact .bl _) (by simp)
theorem Nc.tab {t : Tab} (h : TabOk t) : Nc 10 (tabD t) := .tup (fun x hx => by
  simp only [List.mem_cons, List.not_mem_nil, or_false] at hx
  rcases hx with rfl | rfl | rfl
  · exact .name h.name
  · exact .int _
  · refine .tup (fun x hx => ?_) (by have := h.len4; simp; omega)
    obtain ⟨c, hc, rfl⟩ := List.mem_map.mp hx
    exact .col (h.cols.each c hc)) (by simp)
theorem Nc.ground {ts : List Tab} {top : Int} (h : GroundOk ts top) : (∀ x ∈ ts.map tabD, Nc 10 x) ∧ (ts.map tabD).length ≤ 4 := by
  refine ⟨fun x hx => ?_, by have := h.len4; simp; omega⟩
  obtain ⟨t, ht, rfl⟩ := List.mem_map.mp hx
  exact .tab (h.each t ht)
end M

/-! k01: the law -/
namespace M
open PySem PySem.Spec PyProof.Rows L2
namespace k01
/-- law(script): 0 script, 1 cell, 2 picks, 3 ground, 4 once, 5 thing -/
def f_law (i__law_cell_at i__law_draws i__law_ground i__law_is_ground i_is_ground i__law_spoilt i__law_odd : Nat) : Fn := ⟨1, 6,
  [(.for_ (.v 1) (.of (.bin .add (.lst [(.call i__law_cell_at [(.var 0), (.lit (D.int 0))])]) (.slc (.var 0) [(.lit (D.int 1))] [(.lit (D.int 10))]))) [(.asg (.v 2) (.call i__law_draws [(.var 1), (.lit (D.int 260)), (.lit (D.int 1000))])),
  (.asg (.v 3) (.call i__law_ground [(.var 2), (.lit (D.int 100000))])),
  (.ife (.or (.cmp .isnot (.call i_is_ground [(.var 3)]) (.lit (D.bl true))) (.not (.call i__law_is_ground [(.var 3)]))) [(.ret (.lit (D.bl false)))] []),
  (.asg (.v 4) (.call i__law_spoilt [(.var 3), (.slc (.var 2) [(.lit (D.int 150))] [])])),
  (.for_ (.v 5) (.of (.lst [(.var 4), (.call i__law_spoilt [(.var 4), (.slc (.var 2) [(.lit (D.int 190))] [])]), (.call i__law_odd [(.slc (.var 2) [(.lit (D.int 240))] [])]), (.bi .list [(.var 3)]), (.bin .add (.slc (.var 3) [] [(.lit (D.int 1))]) (.var 3))])) [(.ife (.cmp .ne (.bi .repr [(.call i_is_ground [(.var 5)])]) (.bi .repr [(.call i__law_is_ground [(.var 5)])])) [(.ret (.lit (D.bl false)))] [])])]),
  (.ret (.lit (D.bl true)))]⟩
theorem law_ok {T : List Fn} {i iA iD iG iLG iIG iS iO iW iF iN iAn iNo iC iTa iLF iLN iLC iLT iL iM : Nat} (hT : T[i]? = some (f_law iA iD iG iLG iIG iS iO)) (hA : T[iA]? = some f__law_cell_at) (hD : T[iD]? = some f__law_draws) (hG : T[iG]? = some (f__law_ground iL iM)) (hL : T[iL]? = some (f__law_columns iM)) (hM : T[iM]? = some f__law_name)
    (hS : T[iS]? = some (f__law_spoilt iO iS)) (hO : T[iO]? = some f__law_odd) (hIG : T[iIG]? = some (f_is_ground iTa)) (hTa : T[iTa]? = some (f_is_table iN iAn iNo iC iF)) (hW : T[iW]? = some f_is_whole) (hF : T[iF]? = some (f_is_from iW)) (hN : T[iN]? = some f_is_name) (hAn : T[iAn]? = some (f_are_names iN)) (hNo : T[iNo]? = some f_names_of) (hC : T[iC]? = some (f_is_column iF iN))
    (hLG : T[iLG]? = some (f__law_is_ground iLF iLT)) (hLT : T[iLT]? = some (f__law_is_table iLF iLN iLC)) (hLF : T[iLF]? = some f__law_from) (hLN : T[iLN]? = some f__law_is_name) (hLC : T[iLC]? = some (f__law_is_column iLF iLN))
    (ns : List Int) (hn : ns.length ≤ 63) (S : St') :
    RP (FT T 40 i [.t (.lst (ns.map .int))] S) (fun v S' => v = .t (.bl true)) noE := by
  have rd : ∀ {d : D} {b : Nat}, Nc b d → b ≤ 1000 → ∀ S, RP (FT T 39 iIG [.t d] S) (Is S (.bl (groundB d))) noE := fun hd hb S => is_ground_ok hIG hTa hW hF hN hAn hNo hC 34 hd hb S
  have lrd : ∀ {d : D} {b : Nat}, Nc b d → b ≤ 1000 → ∀ S, RP (FT T 39 iLG [.t d] S) (Is S (.bl (groundB d))) noE := fun hd hb S => lis_ground_ok hLG hLT hLF hLN hLC 35 hd hb S
  refine rp_fn hT rfl rfl ?_
  simp only [f_law, pad]
  obtain ⟨c, hc⟩ := cell_at_ok hA 38 ns S
  have g1 : slcD (.lst (ns.map .int)) (some 1) (some 10) = some (.lst ((cutL ns (some 1) (some 10)).map .int)) := slc_ints _ _ _
  have hcl : (cutL ns (some 1) (some 10)).length ≤ 63 := by
    have : (cutL ns (some 1) (some 10)).length ≤ ns.length := by
      unfold cutL; rw [List.length_take, List.length_drop]; omega
    omega
  have ha : [D.int c].length + ((cutL ns (some 1) (some 10)).map D.int).length ≤ sizeLine := le_sz' (by simp; omega)
  repeat' (first
    | with_reducible refine rp_var (by with_unfolding_all rfl) ?_
    | refine ⟨_, g1, ?_⟩
    | refine ⟨_, if_pos ha, ?_⟩
    | refine RP.eq hc ?_
    | with_reducible refine rp_lit ?_
    | with_reducible refine rp_glb ?_
    | with_reducible refine rp_bin ?_
    | with_reducible refine rp_cmp ?_
    | with_reducible refine rp_cons ?_
    | with_reducible refine rp_nil ?_
    | with_reducible refine rp_idx ?_
    | with_reducible refine rp_call ?_
    | with_reducible refine rp_bi ?_
    | with_reducible refine rp_fz ?_
    | with_reducible refine rp_and ?_
    | with_reducible refine rp_or ?_
    | with_reducible refine rp_not ?_
    | with_reducible refine rp_ifT ?_
    | with_reducible refine rp_slc ?_
    | with_reducible refine rp_p0 ?_
    | with_reducible refine rp_p1 ?_
    | with_reducible refine rp_tup ?_
    | with_reducible refine rp_lst ?_
    | with_reducible refine rp_isi ?_
    | with_reducible refine rp_isit ?_
    | with_reducible refine rp_mth ?_
    | with_reducible refine rp_cmp2 ?_
    | with_reducible refine rp_neg ?_
    | with_reducible refine rp_t0 ?_
    | with_reducible refine rp_t1 ?_
    | with_reducible refine rp_lc ?_
    | with_reducible refine rp_lcL ?_
    | with_reducible refine rp_lstL ?_
    | with_reducible refine rp_catL ?_
    | with_reducible refine rp_listL ?_
    | with_reducible refine rp_of ?_
    | with_reducible refine rp_r1 ?_
    | with_reducible refine rp_r2 ?_
    | with_reducible refine rp_enum ?_
    | with_reducible refine rp_zip ?_
    | with_reducible refine op_nil ?_
    | with_reducible refine op_norm (by simp only [List.set_cons_succ, List.set_cons_zero, List.map_cons, List.map_nil, List.cons_append, List.nil_append]; rfl) (op_cons ?_)
    | with_reducible refine op_cons ?_
    | with_reducible refine op_asg ?_
    | with_reducible refine op_ifT ?_
    | with_reducible refine rt_and ?_
    | with_reducible refine rt_or ?_
    | with_reducible refine rt_not ?_
    | with_reducible refine rt_of ?_
    | with_reducible refine op_ret ?_
    | with_reducible refine op_new ?_
    | with_reducible refine op_app (by with_unfolding_all rfl) (by first | exact st_get | exact st_get2) ?_
    | with_reducible refine op_aug (by with_unfolding_all rfl) (by decide) ?_
    | with_reducible refine op_for ?_
    | with_reducible refine op_par ?_
    | with_reducible refine op_tp ?_
    | with_reducible refine op_seti (by with_unfolding_all rfl) ?_
    | with_reducible refine op_expr ?_
    | with_reducible refine op_doc ?_
    | with_reducible refine op_pass ?_
    | with_reducible refine op_retN ?_
    | with_reducible refine fin0 ?_
    | with_reducible refine fin1 ?_
    | with_reducible refine fino1 ?_
    | with_reducible refine fin2 ?_
    | refine ⟨_, _, _, _, rfl, st_get, lt_sz (by first | omega | (simp only [List.length_map, List.length_append, List.length_cons, List.length_nil]; omega)), st_set, ?_⟩
    | refine ⟨_, rfl, rngOk_in (by omega) (by omega), ?_⟩
    | refine ⟨_, src_live, ?_⟩
    | refine ⟨_, bi_live rfl, ?_⟩
    | (refine ⟨_, rfl, fun h => ?_, fun h => ?_⟩ <;> try (first | exact absurd h (by decide) | exact (f_t h).elim | exact (t_f h).elim))
    | refine ⟨_, rfl, ?_⟩
    | refine ⟨_, if_pos (by first | assumption | omega), ?_⟩
    | refine ⟨_, _, rfl, le_sz rfl, ?_⟩
    | refine ⟨_, _, rfl, rfl, ?_⟩
    | refine ⟨_, _, rfl, if_pos (by first | assumption | omega), ?_⟩
    | refine ⟨_, rfl, rfl, ?_⟩
    | refine ⟨rfl, ?_⟩
    | exact rfl
    | dsimp only)
  refine op_fixM (ys := c :: cutL ns (some 1) (some 10)) D.int (fun rest ρ S' => ∃ k1 k2 k3 k4 k5, ρ = [some (.t (.lst (ns.map .int))), k1, k2, k3, k4, k5] ∧ S' = S) ⟨_, _, _, _, _, rfl, rfl⟩ ?_ ?_
  · rintro x rest ρ S' ⟨k1, k2, k3, k4, k5, rfl, rfl⟩
    refine ⟨_, rfl, ?_⟩
    repeat' (first
    | with_reducible refine rp_var (by with_unfolding_all rfl) ?_
    | with_reducible refine rp_lit ?_
    | with_reducible refine rp_glb ?_
    | with_reducible refine rp_bin ?_
    | with_reducible refine rp_cmp ?_
    | with_reducible refine rp_cons ?_
    | with_reducible refine rp_nil ?_
    | with_reducible refine rp_idx ?_
    | with_reducible refine rp_call ?_
    | with_reducible refine rp_bi ?_
    | with_reducible refine rp_fz ?_
    | with_reducible refine rp_and ?_
    | with_reducible refine rp_or ?_
    | with_reducible refine rp_not ?_
    | with_reducible refine rp_ifT ?_
    | with_reducible refine rp_slc ?_
    | with_reducible refine rp_p0 ?_
    | with_reducible refine rp_p1 ?_
    | with_reducible refine rp_tup ?_
    | with_reducible refine rp_lst ?_
    | with_reducible refine rp_isi ?_
    | with_reducible refine rp_isit ?_
    | with_reducible refine rp_mth ?_
    | with_reducible refine rp_cmp2 ?_
    | with_reducible refine rp_neg ?_
    | with_reducible refine rp_t0 ?_
    | with_reducible refine rp_t1 ?_
    | with_reducible refine rp_lc ?_
    | with_reducible refine rp_lcL ?_
    | with_reducible refine rp_lstL ?_
    | with_reducible refine rp_catL ?_
    | with_reducible refine rp_listL ?_
    | with_reducible refine rp_of ?_
    | with_reducible refine rp_r1 ?_
    | with_reducible refine rp_r2 ?_
    | with_reducible refine rp_enum ?_
    | with_reducible refine rp_zip ?_
    | with_reducible refine op_nil ?_
    | with_reducible refine op_norm (by simp only [List.set_cons_succ, List.set_cons_zero, List.map_cons, List.map_nil, List.cons_append, List.nil_append]; rfl) (op_cons ?_)
    | with_reducible refine op_cons ?_
    | with_reducible refine op_asg ?_
    | with_reducible refine op_ifT ?_
    | with_reducible refine rt_and ?_
    | with_reducible refine rt_or ?_
    | with_reducible refine rt_not ?_
    | with_reducible refine rt_of ?_
    | with_reducible refine op_ret ?_
    | with_reducible refine op_new ?_
    | with_reducible refine op_app (by with_unfolding_all rfl) (by first | exact st_get | exact st_get2) ?_
    | with_reducible refine op_aug (by with_unfolding_all rfl) (by decide) ?_
    | with_reducible refine op_for ?_
    | with_reducible refine op_par ?_
    | with_reducible refine op_tp ?_
    | with_reducible refine op_seti (by with_unfolding_all rfl) ?_
    | with_reducible refine op_expr ?_
    | with_reducible refine op_doc ?_
    | with_reducible refine op_pass ?_
    | with_reducible refine op_retN ?_
    | with_reducible refine fin0 ?_
    | with_reducible refine fin1 ?_
    | with_reducible refine fino1 ?_
    | with_reducible refine fin2 ?_
    | refine ⟨_, _, _, _, rfl, st_get, lt_sz (by first | omega | (simp only [List.length_map, List.length_append, List.length_cons, List.length_nil]; omega)), st_set, ?_⟩
    | refine ⟨_, rfl, rngOk_in (by omega) (by omega), ?_⟩
    | refine ⟨_, src_live, ?_⟩
    | refine ⟨_, bi_live rfl, ?_⟩
    | (refine ⟨_, rfl, fun h => ?_, fun h => ?_⟩ <;> try (first | exact absurd h (by decide) | exact (f_t h).elim | exact (t_f h).elim))
    | refine ⟨_, rfl, ?_⟩
    | refine ⟨_, if_pos (by first | assumption | omega), ?_⟩
    | refine ⟨_, _, rfl, le_sz rfl, ?_⟩
    | refine ⟨_, _, rfl, rfl, ?_⟩
    | refine ⟨_, _, rfl, if_pos (by first | assumption | omega), ?_⟩
    | refine ⟨_, rfl, rfl, ?_⟩
    | refine ⟨rfl, ?_⟩
    | exact rfl
    | dsimp only)
    refine RP.of_no (draws_ok hD 38 x 260 1000 (by omega) (by omega) _) fun v S1 ⟨e1, ps, e2, hpl, hpb⟩ => ?_
    subst e1; subst e2
    have hpl : ps.length = 260 := hpl
    repeat' (first
    | with_reducible refine rp_var (by with_unfolding_all rfl) ?_
    | with_reducible refine rp_lit ?_
    | with_reducible refine rp_glb ?_
    | with_reducible refine rp_bin ?_
    | with_reducible refine rp_cmp ?_
    | with_reducible refine rp_cons ?_
    | with_reducible refine rp_nil ?_
    | with_reducible refine rp_idx ?_
    | with_reducible refine rp_call ?_
    | with_reducible refine rp_bi ?_
    | with_reducible refine rp_fz ?_
    | with_reducible refine rp_and ?_
    | with_reducible refine rp_or ?_
    | with_reducible refine rp_not ?_
    | with_reducible refine rp_ifT ?_
    | with_reducible refine rp_slc ?_
    | with_reducible refine rp_p0 ?_
    | with_reducible refine rp_p1 ?_
    | with_reducible refine rp_tup ?_
    | with_reducible refine rp_lst ?_
    | with_reducible refine rp_isi ?_
    | with_reducible refine rp_isit ?_
    | with_reducible refine rp_mth ?_
    | with_reducible refine rp_cmp2 ?_
    | with_reducible refine rp_neg ?_
    | with_reducible refine rp_t0 ?_
    | with_reducible refine rp_t1 ?_
    | with_reducible refine rp_lc ?_
    | with_reducible refine rp_lcL ?_
    | with_reducible refine rp_lstL ?_
    | with_reducible refine rp_catL ?_
    | with_reducible refine rp_listL ?_
    | with_reducible refine rp_of ?_
    | with_reducible refine rp_r1 ?_
    | with_reducible refine rp_r2 ?_
    | with_reducible refine rp_enum ?_
    | with_reducible refine rp_zip ?_
    | with_reducible refine op_nil ?_
    | with_reducible refine op_norm (by simp only [List.set_cons_succ, List.set_cons_zero, List.map_cons, List.map_nil, List.cons_append, List.nil_append]; rfl) (op_cons ?_)
    | with_reducible refine op_cons ?_
    | with_reducible refine op_asg ?_
    | with_reducible refine op_ifT ?_
    | with_reducible refine rt_and ?_
    | with_reducible refine rt_or ?_
    | with_reducible refine rt_not ?_
    | with_reducible refine rt_of ?_
    | with_reducible refine op_ret ?_
    | with_reducible refine op_new ?_
    | with_reducible refine op_app (by with_unfolding_all rfl) (by first | exact st_get | exact st_get2) ?_
    | with_reducible refine op_aug (by with_unfolding_all rfl) (by decide) ?_
    | with_reducible refine op_for ?_
    | with_reducible refine op_par ?_
    | with_reducible refine op_tp ?_
    | with_reducible refine op_seti (by with_unfolding_all rfl) ?_
    | with_reducible refine op_expr ?_
    | with_reducible refine op_doc ?_
    | with_reducible refine op_pass ?_
    | with_reducible refine op_retN ?_
    | with_reducible refine fin0 ?_
    | with_reducible refine fin1 ?_
    | with_reducible refine fino1 ?_
    | with_reducible refine fin2 ?_
    | refine ⟨_, _, _, _, rfl, st_get, lt_sz (by first | omega | (simp only [List.length_map, List.length_append, List.length_cons, List.length_nil]; omega)), st_set, ?_⟩
    | refine ⟨_, rfl, rngOk_in (by omega) (by omega), ?_⟩
    | refine ⟨_, src_live, ?_⟩
    | refine ⟨_, bi_live rfl, ?_⟩
    | (refine ⟨_, rfl, fun h => ?_, fun h => ?_⟩ <;> try (first | exact absurd h (by decide) | exact (f_t h).elim | exact (t_f h).elim))
    | refine ⟨_, rfl, ?_⟩
    | refine ⟨_, if_pos (by first | assumption | omega), ?_⟩
    | refine ⟨_, _, rfl, le_sz rfl, ?_⟩
    | refine ⟨_, _, rfl, rfl, ?_⟩
    | refine ⟨_, _, rfl, if_pos (by first | assumption | omega), ?_⟩
    | refine ⟨_, rfl, rfl, ?_⟩
    | refine ⟨rfl, ?_⟩
    | exact rfl
    | dsimp only)
    refine RP.of_no (ground_ok hG hL hM 36 ps 100000 (by omega) hpb (by omega) _) fun v S1 ⟨e1, us, e2, hus⟩ => ?_
    subst e1; subst e2
    have hts := sorted_ground hus
    have hgB := groundB_ok hus
    obtain ⟨hnc, hnl⟩ := Nc.ground hts
    generalize (us.mergeSort tabLe).map tabD = ts at hnc hnl hgB
    have hg : Nc 10 (.tup ts) := .tup hnc (by omega)
    repeat' (first
    | with_reducible refine rp_var (by with_unfolding_all rfl) ?_
    | with_reducible refine rp_lit ?_
    | with_reducible refine rp_glb ?_
    | with_reducible refine rp_bin ?_
    | with_reducible refine rp_cmp ?_
    | with_reducible refine rp_cons ?_
    | with_reducible refine rp_nil ?_
    | with_reducible refine rp_idx ?_
    | with_reducible refine rp_call ?_
    | with_reducible refine rp_bi ?_
    | with_reducible refine rp_fz ?_
    | with_reducible refine rp_and ?_
    | with_reducible refine rp_or ?_
    | with_reducible refine rp_not ?_
    | with_reducible refine rp_ifT ?_
    | with_reducible refine rp_slc ?_
    | with_reducible refine rp_p0 ?_
    | with_reducible refine rp_p1 ?_
    | with_reducible refine rp_tup ?_
    | with_reducible refine rp_lst ?_
    | with_reducible refine rp_isi ?_
    | with_reducible refine rp_isit ?_
    | with_reducible refine rp_mth ?_
    | with_reducible refine rp_cmp2 ?_
    | with_reducible refine rp_neg ?_
    | with_reducible refine rp_t0 ?_
    | with_reducible refine rp_t1 ?_
    | with_reducible refine rp_lc ?_
    | with_reducible refine rp_lcL ?_
    | with_reducible refine rp_lstL ?_
    | with_reducible refine rp_catL ?_
    | with_reducible refine rp_listL ?_
    | with_reducible refine rp_of ?_
    | with_reducible refine rp_r1 ?_
    | with_reducible refine rp_r2 ?_
    | with_reducible refine rp_enum ?_
    | with_reducible refine rp_zip ?_
    | with_reducible refine op_nil ?_
    | with_reducible refine op_norm (by simp only [List.set_cons_succ, List.set_cons_zero, List.map_cons, List.map_nil, List.cons_append, List.nil_append]; rfl) (op_cons ?_)
    | with_reducible refine op_cons ?_
    | with_reducible refine op_asg ?_
    | with_reducible refine op_ifT ?_
    | with_reducible refine rt_and ?_
    | with_reducible refine rt_or ?_
    | with_reducible refine rt_not ?_
    | with_reducible refine rt_of ?_
    | with_reducible refine op_ret ?_
    | with_reducible refine op_new ?_
    | with_reducible refine op_app (by with_unfolding_all rfl) (by first | exact st_get | exact st_get2) ?_
    | with_reducible refine op_aug (by with_unfolding_all rfl) (by decide) ?_
    | with_reducible refine op_for ?_
    | with_reducible refine op_par ?_
    | with_reducible refine op_tp ?_
    | with_reducible refine op_seti (by with_unfolding_all rfl) ?_
    | with_reducible refine op_expr ?_
    | with_reducible refine op_doc ?_
    | with_reducible refine op_pass ?_
    | with_reducible refine op_retN ?_
    | with_reducible refine fin0 ?_
    | with_reducible refine fin1 ?_
    | with_reducible refine fino1 ?_
    | with_reducible refine fin2 ?_
    | refine ⟨_, _, _, _, rfl, st_get, lt_sz (by first | omega | (simp only [List.length_map, List.length_append, List.length_cons, List.length_nil]; omega)), st_set, ?_⟩
    | refine ⟨_, rfl, rngOk_in (by omega) (by omega), ?_⟩
    | refine ⟨_, src_live, ?_⟩
    | refine ⟨_, bi_live rfl, ?_⟩
    | (refine ⟨_, rfl, fun h => ?_, fun h => ?_⟩ <;> try (first | exact absurd h (by decide) | exact (f_t h).elim | exact (t_f h).elim))
    | refine ⟨_, rfl, ?_⟩
    | refine ⟨_, if_pos (by first | assumption | omega), ?_⟩
    | refine ⟨_, _, rfl, le_sz rfl, ?_⟩
    | refine ⟨_, _, rfl, rfl, ?_⟩
    | refine ⟨_, _, rfl, if_pos (by first | assumption | omega), ?_⟩
    | refine ⟨_, rfl, rfl, ?_⟩
    | refine ⟨rfl, ?_⟩
    | exact rfl
    | dsimp only)
    refine RP.of_no (rd hg (by omega) _) fun v S1 ⟨e1, e2⟩ => ?_
    subst e1; subst e2
    rw [hgB]
    repeat' (first
    | with_reducible refine rp_var (by with_unfolding_all rfl) ?_
    | with_reducible refine rp_lit ?_
    | with_reducible refine rp_glb ?_
    | with_reducible refine rp_bin ?_
    | with_reducible refine rp_cmp ?_
    | with_reducible refine rp_cons ?_
    | with_reducible refine rp_nil ?_
    | with_reducible refine rp_idx ?_
    | with_reducible refine rp_call ?_
    | with_reducible refine rp_bi ?_
    | with_reducible refine rp_fz ?_
    | with_reducible refine rp_and ?_
    | with_reducible refine rp_or ?_
    | with_reducible refine rp_not ?_
    | with_reducible refine rp_ifT ?_
    | with_reducible refine rp_slc ?_
    | with_reducible refine rp_p0 ?_
    | with_reducible refine rp_p1 ?_
    | with_reducible refine rp_tup ?_
    | with_reducible refine rp_lst ?_
    | with_reducible refine rp_isi ?_
    | with_reducible refine rp_isit ?_
    | with_reducible refine rp_mth ?_
    | with_reducible refine rp_cmp2 ?_
    | with_reducible refine rp_neg ?_
    | with_reducible refine rp_t0 ?_
    | with_reducible refine rp_t1 ?_
    | with_reducible refine rp_lc ?_
    | with_reducible refine rp_lcL ?_
    | with_reducible refine rp_lstL ?_
    | with_reducible refine rp_catL ?_
    | with_reducible refine rp_listL ?_
    | with_reducible refine rp_of ?_
    | with_reducible refine rp_r1 ?_
    | with_reducible refine rp_r2 ?_
    | with_reducible refine rp_enum ?_
    | with_reducible refine rp_zip ?_
    | with_reducible refine op_nil ?_
    | with_reducible refine op_norm (by simp only [List.set_cons_succ, List.set_cons_zero, List.map_cons, List.map_nil, List.cons_append, List.nil_append]; rfl) (op_cons ?_)
    | with_reducible refine op_cons ?_
    | with_reducible refine op_asg ?_
    | with_reducible refine op_ifT ?_
    | with_reducible refine rt_and ?_
    | with_reducible refine rt_or ?_
    | with_reducible refine rt_not ?_
    | with_reducible refine rt_of ?_
    | with_reducible refine op_ret ?_
    | with_reducible refine op_new ?_
    | with_reducible refine op_app (by with_unfolding_all rfl) (by first | exact st_get | exact st_get2) ?_
    | with_reducible refine op_aug (by with_unfolding_all rfl) (by decide) ?_
    | with_reducible refine op_for ?_
    | with_reducible refine op_par ?_
    | with_reducible refine op_tp ?_
    | with_reducible refine op_seti (by with_unfolding_all rfl) ?_
    | with_reducible refine op_expr ?_
    | with_reducible refine op_doc ?_
    | with_reducible refine op_pass ?_
    | with_reducible refine op_retN ?_
    | with_reducible refine fin0 ?_
    | with_reducible refine fin1 ?_
    | with_reducible refine fino1 ?_
    | with_reducible refine fin2 ?_
    | refine ⟨_, _, _, _, rfl, st_get, lt_sz (by first | omega | (simp only [List.length_map, List.length_append, List.length_cons, List.length_nil]; omega)), st_set, ?_⟩
    | refine ⟨_, rfl, rngOk_in (by omega) (by omega), ?_⟩
    | refine ⟨_, src_live, ?_⟩
    | refine ⟨_, bi_live rfl, ?_⟩
    | (refine ⟨_, rfl, fun h => ?_, fun h => ?_⟩ <;> try (first | exact absurd h (by decide) | exact (f_t h).elim | exact (t_f h).elim))
    | refine ⟨_, rfl, ?_⟩
    | refine ⟨_, if_pos (by first | assumption | omega), ?_⟩
    | refine ⟨_, _, rfl, le_sz rfl, ?_⟩
    | refine ⟨_, _, rfl, rfl, ?_⟩
    | refine ⟨_, _, rfl, if_pos (by first | assumption | omega), ?_⟩
    | refine ⟨_, rfl, rfl, ?_⟩
    | refine ⟨rfl, ?_⟩
    | exact rfl
    | dsimp only)
    refine RP.of_no (lrd hg (by omega) _) fun v S1 ⟨e1, e2⟩ => ?_
    subst e1; subst e2
    rw [hgB]
    have r1 : slcD (.lst (ps.map .int)) (some 150) none = some (.lst ((ps.drop 150).map .int)) := ints_of (by omega)
    have r2 : slcD (.lst (ps.map .int)) (some 190) none = some (.lst ((ps.drop 190).map .int)) := ints_of (by omega)
    have r3 : slcD (.lst (ps.map .int)) (some 240) none = some (.lst ((ps.drop 240).map .int)) := ints_of (by omega)
    repeat' (first
    | with_reducible refine rp_var (by with_unfolding_all rfl) ?_
    | refine ⟨_, r1, ?_⟩
    | refine ⟨_, r2, ?_⟩
    | refine ⟨_, r3, ?_⟩
    | with_reducible refine rp_lit ?_
    | with_reducible refine rp_glb ?_
    | with_reducible refine rp_bin ?_
    | with_reducible refine rp_cmp ?_
    | with_reducible refine rp_cons ?_
    | with_reducible refine rp_nil ?_
    | with_reducible refine rp_idx ?_
    | with_reducible refine rp_call ?_
    | with_reducible refine rp_bi ?_
    | with_reducible refine rp_fz ?_
    | with_reducible refine rp_and ?_
    | with_reducible refine rp_or ?_
    | with_reducible refine rp_not ?_
    | with_reducible refine rp_ifT ?_
    | with_reducible refine rp_slc ?_
    | with_reducible refine rp_p0 ?_
    | with_reducible refine rp_p1 ?_
    | with_reducible refine rp_tup ?_
    | with_reducible refine rp_lst ?_
    | with_reducible refine rp_isi ?_
    | with_reducible refine rp_isit ?_
    | with_reducible refine rp_mth ?_
    | with_reducible refine rp_cmp2 ?_
    | with_reducible refine rp_neg ?_
    | with_reducible refine rp_t0 ?_
    | with_reducible refine rp_t1 ?_
    | with_reducible refine rp_lc ?_
    | with_reducible refine rp_lcL ?_
    | with_reducible refine rp_lstL ?_
    | with_reducible refine rp_catL ?_
    | with_reducible refine rp_listL ?_
    | with_reducible refine rp_of ?_
    | with_reducible refine rp_r1 ?_
    | with_reducible refine rp_r2 ?_
    | with_reducible refine rp_enum ?_
    | with_reducible refine rp_zip ?_
    | with_reducible refine op_nil ?_
    | with_reducible refine op_norm (by simp only [List.set_cons_succ, List.set_cons_zero, List.map_cons, List.map_nil, List.cons_append, List.nil_append]; rfl) (op_cons ?_)
    | with_reducible refine op_cons ?_
    | with_reducible refine op_asg ?_
    | with_reducible refine op_ifT ?_
    | with_reducible refine rt_and ?_
    | with_reducible refine rt_or ?_
    | with_reducible refine rt_not ?_
    | with_reducible refine rt_of ?_
    | with_reducible refine op_ret ?_
    | with_reducible refine op_new ?_
    | with_reducible refine op_app (by with_unfolding_all rfl) (by first | exact st_get | exact st_get2) ?_
    | with_reducible refine op_aug (by with_unfolding_all rfl) (by decide) ?_
    | with_reducible refine op_for ?_
    | with_reducible refine op_par ?_
    | with_reducible refine op_tp ?_
    | with_reducible refine op_seti (by with_unfolding_all rfl) ?_
    | with_reducible refine op_expr ?_
    | with_reducible refine op_doc ?_
    | with_reducible refine op_pass ?_
    | with_reducible refine op_retN ?_
    | with_reducible refine fin0 ?_
    | with_reducible refine fin1 ?_
    | with_reducible refine fino1 ?_
    | with_reducible refine fin2 ?_
    | refine ⟨_, _, _, _, rfl, st_get, lt_sz (by first | omega | (simp only [List.length_map, List.length_append, List.length_cons, List.length_nil]; omega)), st_set, ?_⟩
    | refine ⟨_, rfl, rngOk_in (by omega) (by omega), ?_⟩
    | refine ⟨_, src_live, ?_⟩
    | refine ⟨_, bi_live rfl, ?_⟩
    | (refine ⟨_, rfl, fun h => ?_, fun h => ?_⟩ <;> try (first | exact absurd h (by decide) | exact (f_t h).elim | exact (t_f h).elim))
    | refine ⟨_, rfl, ?_⟩
    | refine ⟨_, if_pos (by first | assumption | omega), ?_⟩
    | refine ⟨_, _, rfl, le_sz rfl, ?_⟩
    | refine ⟨_, _, rfl, rfl, ?_⟩
    | refine ⟨_, _, rfl, if_pos (by first | assumption | omega), ?_⟩
    | refine ⟨_, rfl, rfl, ?_⟩
    | refine ⟨rfl, ?_⟩
    | exact rfl
    | dsimp only)
    refine RP.of_no (spoilt_ok hS hO (b := 10) (by omega) (by omega) 26 (ps.drop 150) (by rw [List.length_drop]; omega) (by rw [List.length_drop]; omega) (fun x hx => hpb x (List.mem_of_mem_drop hx)) 11 _ hg _) fun v S1 ⟨e1, d1, e2, hd1⟩ => ?_
    subst e1; subst e2
    repeat' (first
    | with_reducible refine rp_var (by with_unfolding_all rfl) ?_
    | refine ⟨_, r1, ?_⟩
    | refine ⟨_, r2, ?_⟩
    | refine ⟨_, r3, ?_⟩
    | with_reducible refine rp_lit ?_
    | with_reducible refine rp_glb ?_
    | with_reducible refine rp_bin ?_
    | with_reducible refine rp_cmp ?_
    | with_reducible refine rp_cons ?_
    | with_reducible refine rp_nil ?_
    | with_reducible refine rp_idx ?_
    | with_reducible refine rp_call ?_
    | with_reducible refine rp_bi ?_
    | with_reducible refine rp_fz ?_
    | with_reducible refine rp_and ?_
    | with_reducible refine rp_or ?_
    | with_reducible refine rp_not ?_
    | with_reducible refine rp_ifT ?_
    | with_reducible refine rp_slc ?_
    | with_reducible refine rp_p0 ?_
    | with_reducible refine rp_p1 ?_
    | with_reducible refine rp_tup ?_
    | with_reducible refine rp_lst ?_
    | with_reducible refine rp_isi ?_
    | with_reducible refine rp_isit ?_
    | with_reducible refine rp_mth ?_
    | with_reducible refine rp_cmp2 ?_
    | with_reducible refine rp_neg ?_
    | with_reducible refine rp_t0 ?_
    | with_reducible refine rp_t1 ?_
    | with_reducible refine rp_lc ?_
    | with_reducible refine rp_lcL ?_
    | with_reducible refine rp_lstL ?_
    | with_reducible refine rp_catL ?_
    | with_reducible refine rp_listL ?_
    | with_reducible refine rp_of ?_
    | with_reducible refine rp_r1 ?_
    | with_reducible refine rp_r2 ?_
    | with_reducible refine rp_enum ?_
    | with_reducible refine rp_zip ?_
    | with_reducible refine op_nil ?_
    | with_reducible refine op_norm (by simp only [List.set_cons_succ, List.set_cons_zero, List.map_cons, List.map_nil, List.cons_append, List.nil_append]; rfl) (op_cons ?_)
    | with_reducible refine op_cons ?_
    | with_reducible refine op_asg ?_
    | with_reducible refine op_ifT ?_
    | with_reducible refine rt_and ?_
    | with_reducible refine rt_or ?_
    | with_reducible refine rt_not ?_
    | with_reducible refine rt_of ?_
    | with_reducible refine op_ret ?_
    | with_reducible refine op_new ?_
    | with_reducible refine op_app (by with_unfolding_all rfl) (by first | exact st_get | exact st_get2) ?_
    | with_reducible refine op_aug (by with_unfolding_all rfl) (by decide) ?_
    | with_reducible refine op_for ?_
    | with_reducible refine op_par ?_
    | with_reducible refine op_tp ?_
    | with_reducible refine op_seti (by with_unfolding_all rfl) ?_
    | with_reducible refine op_expr ?_
    | with_reducible refine op_doc ?_
    | with_reducible refine op_pass ?_
    | with_reducible refine op_retN ?_
    | with_reducible refine fin0 ?_
    | with_reducible refine fin1 ?_
    | with_reducible refine fino1 ?_
    | with_reducible refine fin2 ?_
    | refine ⟨_, _, _, _, rfl, st_get, lt_sz (by first | omega | (simp only [List.length_map, List.length_append, List.length_cons, List.length_nil]; omega)), st_set, ?_⟩
    | refine ⟨_, rfl, rngOk_in (by omega) (by omega), ?_⟩
    | refine ⟨_, src_live, ?_⟩
    | refine ⟨_, bi_live rfl, ?_⟩
    | (refine ⟨_, rfl, fun h => ?_, fun h => ?_⟩ <;> try (first | exact absurd h (by decide) | exact (f_t h).elim | exact (t_f h).elim))
    | refine ⟨_, rfl, ?_⟩
    | refine ⟨_, if_pos (by first | assumption | omega), ?_⟩
    | refine ⟨_, _, rfl, le_sz rfl, ?_⟩
    | refine ⟨_, _, rfl, rfl, ?_⟩
    | refine ⟨_, _, rfl, if_pos (by first | assumption | omega), ?_⟩
    | refine ⟨_, rfl, rfl, ?_⟩
    | refine ⟨rfl, ?_⟩
    | exact rfl
    | dsimp only)
    refine RP.of_no (spoilt_ok hS hO (b := 11) (by omega) (by omega) 26 (ps.drop 190) (by rw [List.length_drop]; omega) (by rw [List.length_drop]; omega) (fun x hx => hpb x (List.mem_of_mem_drop hx)) 11 _ hd1 _) fun v S1 ⟨e1, d2, e2, hd2⟩ => ?_
    subst e1; subst e2
    repeat' (first
    | with_reducible refine rp_var (by with_unfolding_all rfl) ?_
    | refine ⟨_, r1, ?_⟩
    | refine ⟨_, r2, ?_⟩
    | refine ⟨_, r3, ?_⟩
    | with_reducible refine rp_lit ?_
    | with_reducible refine rp_glb ?_
    | with_reducible refine rp_bin ?_
    | with_reducible refine rp_cmp ?_
    | with_reducible refine rp_cons ?_
    | with_reducible refine rp_nil ?_
    | with_reducible refine rp_idx ?_
    | with_reducible refine rp_call ?_
    | with_reducible refine rp_bi ?_
    | with_reducible refine rp_fz ?_
    | with_reducible refine rp_and ?_
    | with_reducible refine rp_or ?_
    | with_reducible refine rp_not ?_
    | with_reducible refine rp_ifT ?_
    | with_reducible refine rp_slc ?_
    | with_reducible refine rp_p0 ?_
    | with_reducible refine rp_p1 ?_
    | with_reducible refine rp_tup ?_
    | with_reducible refine rp_lst ?_
    | with_reducible refine rp_isi ?_
    | with_reducible refine rp_isit ?_
    | with_reducible refine rp_mth ?_
    | with_reducible refine rp_cmp2 ?_
    | with_reducible refine rp_neg ?_
    | with_reducible refine rp_t0 ?_
    | with_reducible refine rp_t1 ?_
    | with_reducible refine rp_lc ?_
    | with_reducible refine rp_lcL ?_
    | with_reducible refine rp_lstL ?_
    | with_reducible refine rp_catL ?_
    | with_reducible refine rp_listL ?_
    | with_reducible refine rp_of ?_
    | with_reducible refine rp_r1 ?_
    | with_reducible refine rp_r2 ?_
    | with_reducible refine rp_enum ?_
    | with_reducible refine rp_zip ?_
    | with_reducible refine op_nil ?_
    | with_reducible refine op_norm (by simp only [List.set_cons_succ, List.set_cons_zero, List.map_cons, List.map_nil, List.cons_append, List.nil_append]; rfl) (op_cons ?_)
    | with_reducible refine op_cons ?_
    | with_reducible refine op_asg ?_
    | with_reducible refine op_ifT ?_
    | with_reducible refine rt_and ?_
    | with_reducible refine rt_or ?_
    | with_reducible refine rt_not ?_
    | with_reducible refine rt_of ?_
    | with_reducible refine op_ret ?_
    | with_reducible refine op_new ?_
    | with_reducible refine op_app (by with_unfolding_all rfl) (by first | exact st_get | exact st_get2) ?_
    | with_reducible refine op_aug (by with_unfolding_all rfl) (by decide) ?_
    | with_reducible refine op_for ?_
    | with_reducible refine op_par ?_
    | with_reducible refine op_tp ?_
    | with_reducible refine op_seti (by with_unfolding_all rfl) ?_
    | with_reducible refine op_expr ?_
    | with_reducible refine op_doc ?_
    | with_reducible refine op_pass ?_
    | with_reducible refine op_retN ?_
    | with_reducible refine fin0 ?_
    | with_reducible refine fin1 ?_
    | with_reducible refine fino1 ?_
    | with_reducible refine fin2 ?_
    | refine ⟨_, _, _, _, rfl, st_get, lt_sz (by first | omega | (simp only [List.length_map, List.length_append, List.length_cons, List.length_nil]; omega)), st_set, ?_⟩
    | refine ⟨_, rfl, rngOk_in (by omega) (by omega), ?_⟩
    | refine ⟨_, src_live, ?_⟩
    | refine ⟨_, bi_live rfl, ?_⟩
    | (refine ⟨_, rfl, fun h => ?_, fun h => ?_⟩ <;> try (first | exact absurd h (by decide) | exact (f_t h).elim | exact (t_f h).elim))
    | refine ⟨_, rfl, ?_⟩
    | refine ⟨_, if_pos (by first | assumption | omega), ?_⟩
    | refine ⟨_, _, rfl, le_sz rfl, ?_⟩
    | refine ⟨_, _, rfl, rfl, ?_⟩
    | refine ⟨_, _, rfl, if_pos (by first | assumption | omega), ?_⟩
    | refine ⟨_, rfl, rfl, ?_⟩
    | refine ⟨rfl, ?_⟩
    | exact rfl
    | dsimp only)
    refine RP.of_no (odd_ok hO 38 (ps.drop 240) (by rw [List.length_drop]; omega) (fun x hx => hpb x (List.mem_of_mem_drop hx)) _) fun v S1 ⟨e1, d3, e2, hd3⟩ => ?_
    subst e1; subst e2
    have ec : (cutD ts none (some 1)).length + ts.length ≤ sizeLine := le_sz' (by have := cutD_le ts none (some 1); omega)
    repeat' (first
    | with_reducible refine rp_var (by with_unfolding_all rfl) ?_
    | refine ⟨_, if_pos ec, ?_⟩
    | with_reducible refine rp_lit ?_
    | with_reducible refine rp_glb ?_
    | with_reducible refine rp_bin ?_
    | with_reducible refine rp_cmp ?_
    | with_reducible refine rp_cons ?_
    | with_reducible refine rp_nil ?_
    | with_reducible refine rp_idx ?_
    | with_reducible refine rp_call ?_
    | with_reducible refine rp_bi ?_
    | with_reducible refine rp_fz ?_
    | with_reducible refine rp_and ?_
    | with_reducible refine rp_or ?_
    | with_reducible refine rp_not ?_
    | with_reducible refine rp_ifT ?_
    | with_reducible refine rp_slc ?_
    | with_reducible refine rp_p0 ?_
    | with_reducible refine rp_p1 ?_
    | with_reducible refine rp_tup ?_
    | with_reducible refine rp_lst ?_
    | with_reducible refine rp_isi ?_
    | with_reducible refine rp_isit ?_
    | with_reducible refine rp_mth ?_
    | with_reducible refine rp_cmp2 ?_
    | with_reducible refine rp_neg ?_
    | with_reducible refine rp_t0 ?_
    | with_reducible refine rp_t1 ?_
    | with_reducible refine rp_lc ?_
    | with_reducible refine rp_lcL ?_
    | with_reducible refine rp_lstL ?_
    | with_reducible refine rp_catL ?_
    | with_reducible refine rp_listL ?_
    | with_reducible refine rp_of ?_
    | with_reducible refine rp_r1 ?_
    | with_reducible refine rp_r2 ?_
    | with_reducible refine rp_enum ?_
    | with_reducible refine rp_zip ?_
    | with_reducible refine op_nil ?_
    | with_reducible refine op_norm (by simp only [List.set_cons_succ, List.set_cons_zero, List.map_cons, List.map_nil, List.cons_append, List.nil_append]; rfl) (op_cons ?_)
    | with_reducible refine op_cons ?_
    | with_reducible refine op_asg ?_
    | with_reducible refine op_ifT ?_
    | with_reducible refine rt_and ?_
    | with_reducible refine rt_or ?_
    | with_reducible refine rt_not ?_
    | with_reducible refine rt_of ?_
    | with_reducible refine op_ret ?_
    | with_reducible refine op_new ?_
    | with_reducible refine op_app (by with_unfolding_all rfl) (by first | exact st_get | exact st_get2) ?_
    | with_reducible refine op_aug (by with_unfolding_all rfl) (by decide) ?_
    | with_reducible refine op_for ?_
    | with_reducible refine op_par ?_
    | with_reducible refine op_tp ?_
    | with_reducible refine op_seti (by with_unfolding_all rfl) ?_
    | with_reducible refine op_expr ?_
    | with_reducible refine op_doc ?_
    | with_reducible refine op_pass ?_
    | with_reducible refine op_retN ?_
    | with_reducible refine fin0 ?_
    | with_reducible refine fin1 ?_
    | with_reducible refine fino1 ?_
    | with_reducible refine fin2 ?_
    | refine ⟨_, _, _, _, rfl, st_get, lt_sz (by first | omega | (simp only [List.length_map, List.length_append, List.length_cons, List.length_nil]; omega)), st_set, ?_⟩
    | refine ⟨_, rfl, rngOk_in (by omega) (by omega), ?_⟩
    | refine ⟨_, src_live, ?_⟩
    | refine ⟨_, bi_live rfl, ?_⟩
    | (refine ⟨_, rfl, fun h => ?_, fun h => ?_⟩ <;> try (first | exact absurd h (by decide) | exact (f_t h).elim | exact (t_f h).elim))
    | refine ⟨_, rfl, ?_⟩
    | refine ⟨_, if_pos (by first | assumption | omega), ?_⟩
    | refine ⟨_, _, rfl, le_sz rfl, ?_⟩
    | refine ⟨_, _, rfl, rfl, ?_⟩
    | refine ⟨_, _, rfl, if_pos (by first | assumption | omega), ?_⟩
    | refine ⟨_, rfl, rfl, ?_⟩
    | refine ⟨rfl, ?_⟩
    | exact rfl
    | dsimp only)
    refine op_fix (fun l ρ S' => ∃ k5, ρ = [some (.t (.lst (ns.map .int))), some (.t (.int x)), some (.t (.lst (ps.map .int))), some (.t (.tup ts)), some (.t d1), k5] ∧ S' = S1 ∧ ∀ d ∈ l, Nc 12 d) ⟨_, rfl, rfl, ?_⟩ ?_ ?_
    · intro d hd
      simp only [List.mem_cons, List.not_mem_nil, or_false] at hd
      rcases hd with rfl | rfl | rfl | rfl | rfl
      · exact hd1.mono (by omega)
      · exact hd2
      · exact hd3.mono (by omega)
      · exact .lst (fun x hx => (hnc x hx).mono (by omega)) (by omega)
      · refine .tup (fun x hx => ?_) ?_
        · rcases List.mem_append.mp hx with h | h
          · exact (hnc x (cutD_mem h)).mono (by omega)
          · exact (hnc x h).mono (by omega)
        · rw [List.length_append]
          have := cutD_le ts none (some 1)
          omega
    · rintro d ds ρ S' ⟨k5, rfl, rfl, hds⟩
      have hd := hds d List.mem_cons_self
      refine ⟨_, rfl, ?_⟩
      repeat' (first
    | with_reducible refine rp_var (by with_unfolding_all rfl) ?_
    | with_reducible refine rp_lit ?_
    | with_reducible refine rp_glb ?_
    | with_reducible refine rp_bin ?_
    | with_reducible refine rp_cmp ?_
    | with_reducible refine rp_cons ?_
    | with_reducible refine rp_nil ?_
    | with_reducible refine rp_idx ?_
    | with_reducible refine rp_call ?_
    | with_reducible refine rp_bi ?_
    | with_reducible refine rp_fz ?_
    | with_reducible refine rp_and ?_
    | with_reducible refine rp_or ?_
    | with_reducible refine rp_not ?_
    | with_reducible refine rp_ifT ?_
    | with_reducible refine rp_slc ?_
    | with_reducible refine rp_p0 ?_
    | with_reducible refine rp_p1 ?_
    | with_reducible refine rp_tup ?_
    | with_reducible refine rp_lst ?_
    | with_reducible refine rp_isi ?_
    | with_reducible refine rp_isit ?_
    | with_reducible refine rp_mth ?_
    | with_reducible refine rp_cmp2 ?_
    | with_reducible refine rp_neg ?_
    | with_reducible refine rp_t0 ?_
    | with_reducible refine rp_t1 ?_
    | with_reducible refine rp_lc ?_
    | with_reducible refine rp_lcL ?_
    | with_reducible refine rp_lstL ?_
    | with_reducible refine rp_catL ?_
    | with_reducible refine rp_listL ?_
    | with_reducible refine rp_of ?_
    | with_reducible refine rp_r1 ?_
    | with_reducible refine rp_r2 ?_
    | with_reducible refine rp_enum ?_
    | with_reducible refine rp_zip ?_
    | with_reducible refine op_nil ?_
    | with_reducible refine op_norm (by simp only [List.set_cons_succ, List.set_cons_zero, List.map_cons, List.map_nil, List.cons_append, List.nil_append]; rfl) (op_cons ?_)
    | with_reducible refine op_cons ?_
    | with_reducible refine op_asg ?_
    | with_reducible refine op_ifT ?_
    | with_reducible refine rt_and ?_
    | with_reducible refine rt_or ?_
    | with_reducible refine rt_not ?_
    | with_reducible refine rt_of ?_
    | with_reducible refine op_ret ?_
    | with_reducible refine op_new ?_
    | with_reducible refine op_app (by with_unfolding_all rfl) (by first | exact st_get | exact st_get2) ?_
    | with_reducible refine op_aug (by with_unfolding_all rfl) (by decide) ?_
    | with_reducible refine op_for ?_
    | with_reducible refine op_par ?_
    | with_reducible refine op_tp ?_
    | with_reducible refine op_seti (by with_unfolding_all rfl) ?_
    | with_reducible refine op_expr ?_
    | with_reducible refine op_doc ?_
    | with_reducible refine op_pass ?_
    | with_reducible refine op_retN ?_
    | with_reducible refine fin0 ?_
    | with_reducible refine fin1 ?_
    | with_reducible refine fino1 ?_
    | with_reducible refine fin2 ?_
    | refine ⟨_, _, _, _, rfl, st_get, lt_sz (by first | omega | (simp only [List.length_map, List.length_append, List.length_cons, List.length_nil]; omega)), st_set, ?_⟩
    | refine ⟨_, rfl, rngOk_in (by omega) (by omega), ?_⟩
    | refine ⟨_, src_live, ?_⟩
    | refine ⟨_, bi_live rfl, ?_⟩
    | (refine ⟨_, rfl, fun h => ?_, fun h => ?_⟩ <;> try (first | exact absurd h (by decide) | exact (f_t h).elim | exact (t_f h).elim))
    | refine ⟨_, rfl, ?_⟩
    | refine ⟨_, if_pos (by first | assumption | omega), ?_⟩
    | refine ⟨_, _, rfl, le_sz rfl, ?_⟩
    | refine ⟨_, _, rfl, rfl, ?_⟩
    | refine ⟨_, _, rfl, if_pos (by first | assumption | omega), ?_⟩
    | refine ⟨_, rfl, rfl, ?_⟩
    | refine ⟨rfl, ?_⟩
    | exact rfl
    | dsimp only)
      refine RP.of_no (rd hd (by omega) _) fun v S1 ⟨e1, e2⟩ => ?_
      subst e1; subst e2
      repeat' (first
    | with_reducible refine rp_var (by with_unfolding_all rfl) ?_
    | with_reducible refine rp_lit ?_
    | with_reducible refine rp_glb ?_
    | with_reducible refine rp_bin ?_
    | with_reducible refine rp_cmp ?_
    | with_reducible refine rp_cons ?_
    | with_reducible refine rp_nil ?_
    | with_reducible refine rp_idx ?_
    | with_reducible refine rp_call ?_
    | with_reducible refine rp_bi ?_
    | with_reducible refine rp_fz ?_
    | with_reducible refine rp_and ?_
    | with_reducible refine rp_or ?_
    | with_reducible refine rp_not ?_
    | with_reducible refine rp_ifT ?_
    | with_reducible refine rp_slc ?_
    | with_reducible refine rp_p0 ?_
    | with_reducible refine rp_p1 ?_
    | with_reducible refine rp_tup ?_
    | with_reducible refine rp_lst ?_
    | with_reducible refine rp_isi ?_
    | with_reducible refine rp_isit ?_
    | with_reducible refine rp_mth ?_
    | with_reducible refine rp_cmp2 ?_
    | with_reducible refine rp_neg ?_
    | with_reducible refine rp_t0 ?_
    | with_reducible refine rp_t1 ?_
    | with_reducible refine rp_lc ?_
    | with_reducible refine rp_lcL ?_
    | with_reducible refine rp_lstL ?_
    | with_reducible refine rp_catL ?_
    | with_reducible refine rp_listL ?_
    | with_reducible refine rp_of ?_
    | with_reducible refine rp_r1 ?_
    | with_reducible refine rp_r2 ?_
    | with_reducible refine rp_enum ?_
    | with_reducible refine rp_zip ?_
    | with_reducible refine op_nil ?_
    | with_reducible refine op_norm (by simp only [List.set_cons_succ, List.set_cons_zero, List.map_cons, List.map_nil, List.cons_append, List.nil_append]; rfl) (op_cons ?_)
    | with_reducible refine op_cons ?_
    | with_reducible refine op_asg ?_
    | with_reducible refine op_ifT ?_
    | with_reducible refine rt_and ?_
    | with_reducible refine rt_or ?_
    | with_reducible refine rt_not ?_
    | with_reducible refine rt_of ?_
    | with_reducible refine op_ret ?_
    | with_reducible refine op_new ?_
    | with_reducible refine op_app (by with_unfolding_all rfl) (by first | exact st_get | exact st_get2) ?_
    | with_reducible refine op_aug (by with_unfolding_all rfl) (by decide) ?_
    | with_reducible refine op_for ?_
    | with_reducible refine op_par ?_
    | with_reducible refine op_tp ?_
    | with_reducible refine op_seti (by with_unfolding_all rfl) ?_
    | with_reducible refine op_expr ?_
    | with_reducible refine op_doc ?_
    | with_reducible refine op_pass ?_
    | with_reducible refine op_retN ?_
    | with_reducible refine fin0 ?_
    | with_reducible refine fin1 ?_
    | with_reducible refine fino1 ?_
    | with_reducible refine fin2 ?_
    | refine ⟨_, _, _, _, rfl, st_get, lt_sz (by first | omega | (simp only [List.length_map, List.length_append, List.length_cons, List.length_nil]; omega)), st_set, ?_⟩
    | refine ⟨_, rfl, rngOk_in (by omega) (by omega), ?_⟩
    | refine ⟨_, src_live, ?_⟩
    | refine ⟨_, bi_live rfl, ?_⟩
    | (refine ⟨_, rfl, fun h => ?_, fun h => ?_⟩ <;> try (first | exact absurd h (by decide) | exact (f_t h).elim | exact (t_f h).elim))
    | refine ⟨_, rfl, ?_⟩
    | refine ⟨_, if_pos (by first | assumption | omega), ?_⟩
    | refine ⟨_, _, rfl, le_sz rfl, ?_⟩
    | refine ⟨_, _, rfl, rfl, ?_⟩
    | refine ⟨_, _, rfl, if_pos (by first | assumption | omega), ?_⟩
    | refine ⟨_, rfl, rfl, ?_⟩
    | refine ⟨rfl, ?_⟩
    | exact rfl
    | dsimp only)
      refine RP.of_no (lrd hd (by omega) _) fun v S1 ⟨e1, e2⟩ => ?_
      subst e1; subst e2
      repeat' (first
    | with_reducible refine rp_var (by with_unfolding_all rfl) ?_
    | with_reducible refine rp_lit ?_
    | with_reducible refine rp_glb ?_
    | with_reducible refine rp_bin ?_
    | with_reducible refine rp_cmp ?_
    | with_reducible refine rp_cons ?_
    | with_reducible refine rp_nil ?_
    | with_reducible refine rp_idx ?_
    | with_reducible refine rp_call ?_
    | with_reducible refine rp_bi ?_
    | with_reducible refine rp_fz ?_
    | with_reducible refine rp_and ?_
    | with_reducible refine rp_or ?_
    | with_reducible refine rp_not ?_
    | with_reducible refine rp_ifT ?_
    | with_reducible refine rp_slc ?_
    | with_reducible refine rp_p0 ?_
    | with_reducible refine rp_p1 ?_
    | with_reducible refine rp_tup ?_
    | with_reducible refine rp_lst ?_
    | with_reducible refine rp_isi ?_
    | with_reducible refine rp_isit ?_
    | with_reducible refine rp_mth ?_
    | with_reducible refine rp_cmp2 ?_
    | with_reducible refine rp_neg ?_
    | with_reducible refine rp_t0 ?_
    | with_reducible refine rp_t1 ?_
    | with_reducible refine rp_lc ?_
    | with_reducible refine rp_lcL ?_
    | with_reducible refine rp_lstL ?_
    | with_reducible refine rp_catL ?_
    | with_reducible refine rp_listL ?_
    | with_reducible refine rp_of ?_
    | with_reducible refine rp_r1 ?_
    | with_reducible refine rp_r2 ?_
    | with_reducible refine rp_enum ?_
    | with_reducible refine rp_zip ?_
    | with_reducible refine op_nil ?_
    | with_reducible refine op_norm (by simp only [List.set_cons_succ, List.set_cons_zero, List.map_cons, List.map_nil, List.cons_append, List.nil_append]; rfl) (op_cons ?_)
    | with_reducible refine op_cons ?_
    | with_reducible refine op_asg ?_
    | with_reducible refine op_ifT ?_
    | with_reducible refine rt_and ?_
    | with_reducible refine rt_or ?_
    | with_reducible refine rt_not ?_
    | with_reducible refine rt_of ?_
    | with_reducible refine op_ret ?_
    | with_reducible refine op_new ?_
    | with_reducible refine op_app (by with_unfolding_all rfl) (by first | exact st_get | exact st_get2) ?_
    | with_reducible refine op_aug (by with_unfolding_all rfl) (by decide) ?_
    | with_reducible refine op_for ?_
    | with_reducible refine op_par ?_
    | with_reducible refine op_tp ?_
    | with_reducible refine op_seti (by with_unfolding_all rfl) ?_
    | with_reducible refine op_expr ?_
    | with_reducible refine op_doc ?_
    | with_reducible refine op_pass ?_
    | with_reducible refine op_retN ?_
    | with_reducible refine fin0 ?_
    | with_reducible refine fin1 ?_
    | with_reducible refine fino1 ?_
    | with_reducible refine fin2 ?_
    | refine ⟨_, _, _, _, rfl, st_get, lt_sz (by first | omega | (simp only [List.length_map, List.length_append, List.length_cons, List.length_nil]; omega)), st_set, ?_⟩
    | refine ⟨_, rfl, rngOk_in (by omega) (by omega), ?_⟩
    | refine ⟨_, src_live, ?_⟩
    | refine ⟨_, bi_live rfl, ?_⟩
    | (refine ⟨_, rfl, fun h => ?_, fun h => ?_⟩ <;> try (first | exact absurd h (by decide) | exact (f_t h).elim | exact (t_f h).elim))
    | refine ⟨_, rfl, ?_⟩
    | refine ⟨_, if_pos (by first | assumption | omega), ?_⟩
    | refine ⟨_, _, rfl, le_sz rfl, ?_⟩
    | refine ⟨_, _, rfl, rfl, ?_⟩
    | refine ⟨_, _, rfl, if_pos (by first | assumption | omega), ?_⟩
    | refine ⟨_, rfl, rfl, ?_⟩
    | refine ⟨rfl, ?_⟩
    | exact rfl
    | dsimp only)
      · rw [deq, beq_self_eq_true] at h; cases h
      · exact fun e he => hds e (List.mem_cons_of_mem _ he)
    · rintro ρ S' ⟨k5, rfl, rfl, hds⟩
      repeat' (first
    | with_reducible refine rp_var (by with_unfolding_all rfl) ?_
    | with_reducible refine rp_lit ?_
    | with_reducible refine rp_glb ?_
    | with_reducible refine rp_bin ?_
    | with_reducible refine rp_cmp ?_
    | with_reducible refine rp_cons ?_
    | with_reducible refine rp_nil ?_
    | with_reducible refine rp_idx ?_
    | with_reducible refine rp_call ?_
    | with_reducible refine rp_bi ?_
    | with_reducible refine rp_fz ?_
    | with_reducible refine rp_and ?_
    | with_reducible refine rp_or ?_
    | with_reducible refine rp_not ?_
    | with_reducible refine rp_ifT ?_
    | with_reducible refine rp_slc ?_
    | with_reducible refine rp_p0 ?_
    | with_reducible refine rp_p1 ?_
    | with_reducible refine rp_tup ?_
    | with_reducible refine rp_lst ?_
    | with_reducible refine rp_isi ?_
    | with_reducible refine rp_isit ?_
    | with_reducible refine rp_mth ?_
    | with_reducible refine rp_cmp2 ?_
    | with_reducible refine rp_neg ?_
    | with_reducible refine rp_t0 ?_
    | with_reducible refine rp_t1 ?_
    | with_reducible refine rp_lc ?_
    | with_reducible refine rp_lcL ?_
    | with_reducible refine rp_lstL ?_
    | with_reducible refine rp_catL ?_
    | with_reducible refine rp_listL ?_
    | with_reducible refine rp_of ?_
    | with_reducible refine rp_r1 ?_
    | with_reducible refine rp_r2 ?_
    | with_reducible refine rp_enum ?_
    | with_reducible refine rp_zip ?_
    | with_reducible refine op_nil ?_
    | with_reducible refine op_norm (by simp only [List.set_cons_succ, List.set_cons_zero, List.map_cons, List.map_nil, List.cons_append, List.nil_append]; rfl) (op_cons ?_)
    | with_reducible refine op_cons ?_
    | with_reducible refine op_asg ?_
    | with_reducible refine op_ifT ?_
    | with_reducible refine rt_and ?_
    | with_reducible refine rt_or ?_
    | with_reducible refine rt_not ?_
    | with_reducible refine rt_of ?_
    | with_reducible refine op_ret ?_
    | with_reducible refine op_new ?_
    | with_reducible refine op_app (by with_unfolding_all rfl) (by first | exact st_get | exact st_get2) ?_
    | with_reducible refine op_aug (by with_unfolding_all rfl) (by decide) ?_
    | with_reducible refine op_for ?_
    | with_reducible refine op_par ?_
    | with_reducible refine op_tp ?_
    | with_reducible refine op_seti (by with_unfolding_all rfl) ?_
    | with_reducible refine op_expr ?_
    | with_reducible refine op_doc ?_
    | with_reducible refine op_pass ?_
    | with_reducible refine op_retN ?_
    | with_reducible refine fin0 ?_
    | with_reducible refine fin1 ?_
    | with_reducible refine fino1 ?_
    | with_reducible refine fin2 ?_
    | refine ⟨_, _, _, _, rfl, st_get, lt_sz (by first | omega | (simp only [List.length_map, List.length_append, List.length_cons, List.length_nil]; omega)), st_set, ?_⟩
    | refine ⟨_, rfl, rngOk_in (by omega) (by omega), ?_⟩
    | refine ⟨_, src_live, ?_⟩
    | refine ⟨_, bi_live rfl, ?_⟩
    | (refine ⟨_, rfl, fun h => ?_, fun h => ?_⟩ <;> try (first | exact absurd h (by decide) | exact (f_t h).elim | exact (t_f h).elim))
    | refine ⟨_, rfl, ?_⟩
    | refine ⟨_, if_pos (by first | assumption | omega), ?_⟩
    | refine ⟨_, _, rfl, le_sz rfl, ?_⟩
    | refine ⟨_, _, rfl, rfl, ?_⟩
    | refine ⟨_, _, rfl, if_pos (by first | assumption | omega), ?_⟩
    | refine ⟨_, rfl, rfl, ?_⟩
    | refine ⟨rfl, ?_⟩
    | exact rfl
    | dsimp only)
      exact ⟨_, _, _, _, _, rfl, rfl⟩
  · rintro ρ S' ⟨k1, k2, k3, k4, k5, rfl, rfl⟩
    repeat' (first
    | with_reducible refine rp_var (by with_unfolding_all rfl) ?_
    | with_reducible refine rp_lit ?_
    | with_reducible refine rp_glb ?_
    | with_reducible refine rp_bin ?_
    | with_reducible refine rp_cmp ?_
    | with_reducible refine rp_cons ?_
    | with_reducible refine rp_nil ?_
    | with_reducible refine rp_idx ?_
    | with_reducible refine rp_call ?_
    | with_reducible refine rp_bi ?_
    | with_reducible refine rp_fz ?_
    | with_reducible refine rp_and ?_
    | with_reducible refine rp_or ?_
    | with_reducible refine rp_not ?_
    | with_reducible refine rp_ifT ?_
    | with_reducible refine rp_slc ?_
    | with_reducible refine rp_p0 ?_
    | with_reducible refine rp_p1 ?_
    | with_reducible refine rp_tup ?_
    | with_reducible refine rp_lst ?_
    | with_reducible refine rp_isi ?_
    | with_reducible refine rp_isit ?_
    | with_reducible refine rp_mth ?_
    | with_reducible refine rp_cmp2 ?_
    | with_reducible refine rp_neg ?_
    | with_reducible refine rp_t0 ?_
    | with_reducible refine rp_t1 ?_
    | with_reducible refine rp_lc ?_
    | with_reducible refine rp_lcL ?_
    | with_reducible refine rp_lstL ?_
    | with_reducible refine rp_catL ?_
    | with_reducible refine rp_listL ?_
    | with_reducible refine rp_of ?_
    | with_reducible refine rp_r1 ?_
    | with_reducible refine rp_r2 ?_
    | with_reducible refine rp_enum ?_
    | with_reducible refine rp_zip ?_
    | with_reducible refine op_nil ?_
    | with_reducible refine op_norm (by simp only [List.set_cons_succ, List.set_cons_zero, List.map_cons, List.map_nil, List.cons_append, List.nil_append]; rfl) (op_cons ?_)
    | with_reducible refine op_cons ?_
    | with_reducible refine op_asg ?_
    | with_reducible refine op_ifT ?_
    | with_reducible refine rt_and ?_
    | with_reducible refine rt_or ?_
    | with_reducible refine rt_not ?_
    | with_reducible refine rt_of ?_
    | with_reducible refine op_ret ?_
    | with_reducible refine op_new ?_
    | with_reducible refine op_app (by with_unfolding_all rfl) (by first | exact st_get | exact st_get2) ?_
    | with_reducible refine op_aug (by with_unfolding_all rfl) (by decide) ?_
    | with_reducible refine op_for ?_
    | with_reducible refine op_par ?_
    | with_reducible refine op_tp ?_
    | with_reducible refine op_seti (by with_unfolding_all rfl) ?_
    | with_reducible refine op_expr ?_
    | with_reducible refine op_doc ?_
    | with_reducible refine op_pass ?_
    | with_reducible refine op_retN ?_
    | with_reducible refine fin0 ?_
    | with_reducible refine fin1 ?_
    | with_reducible refine fino1 ?_
    | with_reducible refine fin2 ?_
    | refine ⟨_, _, _, _, rfl, st_get, lt_sz (by first | omega | (simp only [List.length_map, List.length_append, List.length_cons, List.length_nil]; omega)), st_set, ?_⟩
    | refine ⟨_, rfl, rngOk_in (by omega) (by omega), ?_⟩
    | refine ⟨_, src_live, ?_⟩
    | refine ⟨_, bi_live rfl, ?_⟩
    | (refine ⟨_, rfl, fun h => ?_, fun h => ?_⟩ <;> try (first | exact absurd h (by decide) | exact (f_t h).elim | exact (t_f h).elim))
    | refine ⟨_, rfl, ?_⟩
    | refine ⟨_, if_pos (by first | assumption | omega), ?_⟩
    | refine ⟨_, _, rfl, le_sz rfl, ?_⟩
    | refine ⟨_, _, rfl, rfl, ?_⟩
    | refine ⟨_, _, rfl, if_pos (by first | assumption | omega), ?_⟩
    | refine ⟨_, rfl, rfl, ?_⟩
    | refine ⟨rfl, ?_⟩
    | exact rfl
    | dsimp only)
end k01
end M

namespace M
open PySem PySem.Spec PyProof.Rows L2
namespace k01
abbrev pw : Program := PySem.Challenge.pw_rowveil_k01_what_is_a_ground
abbrev rw_ : PySem.W.OpenLaw := PySem.Challenge.rw_rowveil_k01_what_is_a_ground
def top (i : Nat) : Stmt := pw.main.body.getD i (.Pass ⟨0, 0, 0, 0⟩)
def free : List Str := ["isinstance", "bool", "int", "len", "str", "all", "tuple", "set", "any", "zip", "range", "min", "sorted", "list", "repr"]
def cs : List (Str × D) := [("KEPT_WORDS", c_KEPT_WORDS), ("LETTERS", c_LETTERS)]
def e_is_whole : En := ⟨⟨("is_whole", none), "is_whole", "is_whole", defArgs (top 3), defBody (top 3), defScope (top 3), [], []⟩, ⟨"is_whole", ["thing"]⟩, ["thing"], f_is_whole⟩
theorem b_is_whole : BnOk e_is_whole := fun _ _ _ _ _ _ us hl => match us, hl with | [_], _ => rfl
def e_is_from : En := ⟨⟨("is_from", none), "is_from", "is_from", defArgs (top 4), defBody (top 4), defScope (top 4), [], []⟩, ⟨"is_from", ["thing", "least", "most"]⟩, ["thing", "least", "most"], (f_is_from 0)⟩
theorem b_is_from : BnOk e_is_from := fun _ _ _ _ _ _ us hl => match us, hl with | [_, _, _], _ => rfl
def e_is_name : En := ⟨⟨("is_name", none), "is_name", "is_name", defArgs (top 5), defBody (top 5), defScope (top 5), [], []⟩, ⟨"is_name", ["thing"]⟩, ["thing", "sign"], f_is_name⟩
theorem b_is_name : BnOk e_is_name := fun _ _ _ _ _ _ us hl => match us, hl with | [_], _ => rfl
def e_are_names : En := ⟨⟨("are_names", none), "are_names", "are_names", defArgs (top 6), defBody (top 6), defScope (top 6), [], []⟩, ⟨"are_names", ["thing"]⟩, ["thing", "name"], (f_are_names 2)⟩
theorem b_are_names : BnOk e_are_names := fun _ _ _ _ _ _ us hl => match us, hl with | [_], _ => rfl
def e_is_column : En := ⟨⟨("is_column", none), "is_column", "is_column", defArgs (top 7), defBody (top 7), defScope (top 7), [], []⟩, ⟨"is_column", ["thing"]⟩, ["thing"], (f_is_column 1 2)⟩
theorem b_is_column : BnOk e_is_column := fun _ _ _ _ _ _ us hl => match us, hl with | [_], _ => rfl
def e_is_table : En := ⟨⟨("is_table", none), "is_table", "is_table", defArgs (top 8), defBody (top 8), defScope (top 8), [], []⟩, ⟨"is_table", ["thing"]⟩, ["thing", "columns", "column"], (f_is_table 2 3 7 4 1)⟩
theorem b_is_table : BnOk e_is_table := fun _ _ _ _ _ _ us hl => match us, hl with | [_], _ => rfl
def e_is_ground : En := ⟨⟨("is_ground", none), "is_ground", "is_ground", defArgs (top 9), defBody (top 9), defScope (top 9), [], []⟩, ⟨"is_ground", ["thing"]⟩, ["thing", "table", "one", "other"], (f_is_ground 5)⟩
theorem b_is_ground : BnOk e_is_ground := fun _ _ _ _ _ _ us hl => match us, hl with | [_], _ => rfl
def e_names_of : En := ⟨⟨("names_of", none), "names_of", "names_of", defArgs (top 10), defBody (top 10), defScope (top 10), [], []⟩, ⟨"names_of", ["table"]⟩, ["table", "column"], f_names_of⟩
theorem b_names_of : BnOk e_names_of := fun _ _ _ _ _ _ us hl => match us, hl with | [_], _ => rfl
def e__law_cell_at : En := ⟨⟨("_law_cell_at", none), "_law_cell_at", "_law_cell_at", defArgs (top 12), defBody (top 12), defScope (top 12), [], []⟩, ⟨"_law_cell_at", ["script", "k"]⟩, ["script", "k"], f__law_cell_at⟩
theorem b__law_cell_at : BnOk e__law_cell_at := fun _ _ _ _ _ _ us hl => match us, hl with | [_, _], _ => rfl
def e__law_draws : En := ⟨⟨("_law_draws", none), "_law_draws", "_law_draws", defArgs (top 13), defBody (top 13), defScope (top 13), [], []⟩, ⟨"_law_draws", ["cell", "many", "base"]⟩, ["cell", "many", "base", "found", "rest", "stirred", "k"], f__law_draws⟩
theorem b__law_draws : BnOk e__law_draws := fun _ _ _ _ _ _ us hl => match us, hl with | [_, _, _], _ => rfl
def e__law_name : En := ⟨⟨("_law_name", none), "_law_name", "_law_name", defArgs (top 14), defBody (top 14), defScope (top 14), [], []⟩, ⟨"_law_name", ["some", "taken"]⟩, ["some", "taken", "letters", "size", "word", "k", "barred", "ways", "letter", "one"], f__law_name⟩
theorem b__law_name : BnOk e__law_name := fun _ _ _ _ _ _ us hl => match us, hl with | [_, _], _ => rfl
def e__law_columns : En := ⟨⟨("_law_columns", none), "_law_columns", "_law_columns", defArgs (top 15), defBody (top 15), defScope (top 15), [], []⟩, ⟨"_law_columns", ["picks", "many", "top"]⟩, ["picks", "many", "top", "found", "room", "k", "some", "values", "empty", "one"], (f__law_columns 10)⟩
theorem b__law_columns : BnOk e__law_columns := fun _ _ _ _ _ _ us hl => match us, hl with | [_, _, _], _ => rfl
def e__law_ground : En := ⟨⟨("_law_ground", none), "_law_ground", "_law_ground", defArgs (top 16), defBody (top 16), defScope (top 16), [], []⟩, ⟨"_law_ground", ["picks", "top"]⟩, ["picks", "top", "found", "left", "k", "some", "columns", "room", "key", "name", "one"], (f__law_ground 11 10)⟩
theorem b__law_ground : BnOk e__law_ground := fun _ _ _ _ _ _ us hl => match us, hl with | [_, _], _ => rfl
def e__law_odd : En := ⟨⟨("_law_odd", none), "_law_odd", "_law_odd", defArgs (top 17), defBody (top 17), defScope (top 17), [], []⟩, ⟨"_law_odd", ["picks"]⟩, ["picks", "odd"], f__law_odd⟩
theorem b__law_odd : BnOk e__law_odd := fun _ _ _ _ _ _ us hl => match us, hl with | [_], _ => rfl
def e__law_spoilt : En := ⟨⟨("_law_spoilt", none), "_law_spoilt", "_law_spoilt", defArgs (top 18), defBody (top 18), defScope (top 18), [], []⟩, ⟨"_law_spoilt", ["thing", "picks"]⟩, ["thing", "picks", "parts", "at", "way"], (f__law_spoilt 13 14)⟩
theorem b__law_spoilt : BnOk e__law_spoilt := fun _ _ _ _ _ _ us hl => match us, hl with | [_, _], _ => rfl
def e__law_from : En := ⟨⟨("_law_from", none), "_law_from", "_law_from", defArgs (top 19), defBody (top 19), defScope (top 19), [], []⟩, ⟨"_law_from", ["thing", "least", "top"]⟩, ["thing", "least", "top"], f__law_from⟩
theorem b__law_from : BnOk e__law_from := fun _ _ _ _ _ _ us hl => match us, hl with | [_, _, _], _ => rfl
def e__law_is_name : En := ⟨⟨("_law_is_name", none), "_law_is_name", "_law_is_name", defArgs (top 20), defBody (top 20), defScope (top 20), [], []⟩, ⟨"_law_is_name", ["thing"]⟩, ["thing", "barred", "sign"], f__law_is_name⟩
theorem b__law_is_name : BnOk e__law_is_name := fun _ _ _ _ _ _ us hl => match us, hl with | [_], _ => rfl
def e__law_is_column : En := ⟨⟨("_law_is_column", none), "_law_is_column", "_law_is_column", defArgs (top 21), defBody (top 21), defScope (top 21), [], []⟩, ⟨"_law_is_column", ["thing"]⟩, ["thing"], (f__law_is_column 15 16)⟩
theorem b__law_is_column : BnOk e__law_is_column := fun _ _ _ _ _ _ us hl => match us, hl with | [_], _ => rfl
def e__law_is_table : En := ⟨⟨("_law_is_table", none), "_law_is_table", "_law_is_table", defArgs (top 22), defBody (top 22), defScope (top 22), [], []⟩, ⟨"_law_is_table", ["thing"]⟩, ["thing", "names", "one"], (f__law_is_table 15 16 17)⟩
theorem b__law_is_table : BnOk e__law_is_table := fun _ _ _ _ _ _ us hl => match us, hl with | [_], _ => rfl
def e__law_is_ground : En := ⟨⟨("_law_is_ground", none), "_law_is_ground", "_law_is_ground", defArgs (top 23), defBody (top 23), defScope (top 23), [], []⟩, ⟨"_law_is_ground", ["thing"]⟩, ["thing", "names", "one"], (f__law_is_ground 15 18)⟩
theorem b__law_is_ground : BnOk e__law_is_ground := fun _ _ _ _ _ _ us hl => match us, hl with | [_], _ => rfl
def e_law : En := ⟨⟨("law", none), "law", "law", defArgs (top 24), defBody (top 24), defScope (top 24), [], []⟩, ⟨"law", ["script"]⟩, ["script", "cell", "picks", "ground", "once", "thing"], (f_law 8 9 12 19 6 14 13)⟩
theorem b_law : BnOk e_law := fun _ _ _ _ _ _ us hl => match us, hl with | [_], _ => rfl
def es : List En := [e_is_whole, e_is_from, e_is_name, e_are_names, e_is_column, e_is_table, e_is_ground, e_names_of, e__law_cell_at, e__law_draws, e__law_name, e__law_columns, e__law_ground, e__law_odd, e__law_spoilt, e__law_from, e__law_is_name, e__law_is_column, e__law_is_table, e__law_is_ground, e_law]
def T : List Fn := [f_is_whole, (f_is_from 0), f_is_name, (f_are_names 2), (f_is_column 1 2), (f_is_table 2 3 7 4 1), (f_is_ground 5), f_names_of, f__law_cell_at, f__law_draws, f__law_name, (f__law_columns 10), (f__law_ground 11 10), f__law_odd, (f__law_spoilt 13 14), f__law_from, f__law_is_name, (f__law_is_column 15 16), (f__law_is_table 15 16 17), (f__law_is_ground 15 18), (f_law 8 9 12 19 6 14 13)]
theorem T_eq : es.map (·.f) = T := rfl
theorem es_ok : es.all (enB (gloOf es free cs)) = true := by decide +kernel
theorem bn_ok : ∀ e ∈ es, BnOk e := by
  intro e he
  simp only [es, List.mem_cons, List.not_mem_nil, or_false] at he
  rcases he with rfl | rfl | rfl | rfl | rfl | rfl | rfl | rfl | rfl | rfl | rfl | rfl | rfl | rfl | rfl | rfl | rfl | rfl | rfl | rfl | rfl
  · exact b_is_whole
  · exact b_is_from
  · exact b_is_name
  · exact b_are_names
  · exact b_is_column
  · exact b_is_table
  · exact b_is_ground
  · exact b_names_of
  · exact b__law_cell_at
  · exact b__law_draws
  · exact b__law_name
  · exact b__law_columns
  · exact b__law_ground
  · exact b__law_odd
  · exact b__law_spoilt
  · exact b__law_from
  · exact b__law_is_name
  · exact b__law_is_column
  · exact b__law_is_table
  · exact b__law_is_ground
  · exact b_law
abbrev Rr : PySem.W.OpenRow := PySem.W.OpenLaw.row rw_
abbrev hk : PySem.W.Hook := hkOf 4 es free cs
def ob (s : PySem.W.SharedT) : He.AlX := He.obsX 4 (faOf es free) (es.map (·.d)) [] [] (exB cs) (HandSHeadRun.getT s)
theorem ob_eq (s : PySem.W.SharedT) : ob s = hk.obs s.abs := He.obsX_eq (HandSHeadRun.getT_eq s)
def loose : List Str := ["LETTERS", "KEPT_WORDS", "is_whole", "is_from", "is_name", "are_names", "is_column", "is_table", "is_ground", "names_of", "_law_cell_at", "_law_draws", "_law_name", "_law_columns", "_law_ground", "_law_odd", "_law_spoilt", "_law_from", "_law_is_name", "_law_is_column", "_law_is_table", "_law_is_ground"]
theorem run (w : World) : HandSHeadRun.RunEq Rr (PySem.W.view Rr.prog [24]) hk ob 4000 loose w := by
  intro os
  kernel_rfl

theorem law_true : ∀ ns : List Int, ns.length ≤ 63 → ∃ S', FT T 40 20 [.t (.lst (ns.map .int))] [] = .ok (.t (.bl true)) S' := by
  intro ns hn
  obtain ⟨v, S', e, rfl⟩ := RP.get (law_ok (T := T) (i := 20) (iA := 8) (iD := 9) (iG := 12) (iLG := 19) (iIG := 6) (iS := 14) (iO := 13) (iW := 0) (iF := 1) (iN := 2) (iAn := 3) (iNo := 7) (iC := 4) (iTa := 5) (iLF := 15) (iLN := 16) (iLC := 17) (iLT := 18) (iL := 11) (iM := 10) rfl rfl rfl rfl rfl rfl rfl rfl rfl rfl rfl rfl rfl rfl rfl rfl rfl rfl rfl rfl rfl ns hn [])
  exact ⟨S', e⟩

open PySem PySem.W PySem.Calls PyProof.Rows in
theorem ans : PySem.Challenge.rw_rowveil_k01_what_is_a_ground.Holds := by
  w_on; o_law
  refine HandSHeadRun.head_any (r := OpenLaw.row PySem.Challenge.rw_rowveil_k01_what_is_a_ground) (q := view (OpenLaw.row PySem.Challenge.rw_rowveil_k01_what_is_a_ground).prog [24]) (H := hk) (ob := ob) (M := 4000) (loose := loose) (d := HandSHeadRun.topDef (OpenLaw.row PySem.Challenge.rw_rowveil_k01_what_is_a_ground).prog 24) (kwd := []) ob_eq
    (by kernel_rfl) (fun s => by kernel_rfl) run (by kernel_rfl) (by kernel_rfl) (by kernel_rfl) (by rfl) (by first | assumption | decide +kernel) (by decide +kernel) ⟨rfl, rfl, rfl, rfl, rfl, by decide +kernel⟩ ?hw ?hc
  case hw => w_witness2
  case hc =>
    refine walk_ofM (l := PySem.Challenge.rw_rowveil_k01_what_is_a_ground) (n := 63) (k := 40) (x := "script") rfl (by decide) (by kernel_rfl) ⟨rfl, by decide, by decide⟩ ?F
    case F =>
      intro w mg fa h Y G hmg0
      have hmg : mg ("law" : PySem.Str) = some (.ref fa) := by
        have e : (HandSHeadRun.topDef (OpenLaw.row PySem.Challenge.rw_rowveil_k01_what_is_a_ground).prog 24).name = ("law" : PySem.Str) := by kernel_rfl
        rw [← e]
        exact hmg0
      exact law_end es_ok bn_ok (i := 20) (e := e_law) rfl rfl Y G hmg law_true


end k01
end M

theorem PySem.Challenge.cw_rowveil_k01_what_is_a_ground_holds : PySem.Challenge.rw_rowveil_k01_what_is_a_ground.Holds :=
  M.k01.ans
